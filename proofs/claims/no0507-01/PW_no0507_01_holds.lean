import PyProof.Rows.All
import Wide.All
import OpenK.AllK
import Wide.FinOn
import KE.KItem
import Lean
import PySem.Challenge.RW_no0507_01
open PySem PySem.W PyProof.Rows PySem.Calls
set_option Elab.async false
set_option linter.unusedVariables false
set_option maxRecDepth 100000
set_option maxHeartbeats 8000000
set_option compiler.extract_closed false
set_option genSizeOf false
set_option genSizeOfSpec false
namespace Mine
/-- the i-th def of the text, or the j-th of its i-th class -/
noncomputable def fdAt (i j : Nat) : Option (Arguments × List Stmt × Scope) :=
  match PySem.Challenge.pw_no0507_01.main.body[i]? with
  | some (.FunctionDef _ a b _ _ _ s ..) => some (a, b, s)
  | some (.ClassDef _ _ _ l ..) => match l[j]? with
    | some (.FunctionDef _ a b _ _ _ s ..) => some (a, b, s)
    | _ => none
  | _ => none
noncomputable abbrev pa21 : Arguments := by
  refine (?f : (a : Arguments) → (b : List Stmt) → (s : Scope) → fdAt 0 0 = some (a, b, s) → Arguments) _ _ _ rfl
  exact fun a _ _ _ => a
noncomputable abbrev bd21 : List Stmt := by
  refine (?f : (a : Arguments) → (b : List Stmt) → (s : Scope) → fdAt 0 0 = some (a, b, s) → List Stmt) _ _ _ rfl
  exact fun _ b _ _ => b
noncomputable abbrev sc21 : Scope := by
  refine (?f : (a : Arguments) → (b : List Stmt) → (s : Scope) → fdAt 0 0 = some (a, b, s) → Scope) _ _ _ rfl
  exact fun _ _ s _ => s
noncomputable abbrev pa48 : Arguments := by
  refine (?f : (a : Arguments) → (b : List Stmt) → (s : Scope) → fdAt 3 0 = some (a, b, s) → Arguments) _ _ _ rfl
  exact fun a _ _ _ => a
noncomputable abbrev bd48 : List Stmt := by
  refine (?f : (a : Arguments) → (b : List Stmt) → (s : Scope) → fdAt 3 0 = some (a, b, s) → List Stmt) _ _ _ rfl
  exact fun _ b _ _ => b
noncomputable abbrev sc48 : Scope := by
  refine (?f : (a : Arguments) → (b : List Stmt) → (s : Scope) → fdAt 3 0 = some (a, b, s) → Scope) _ _ _ rfl
  exact fun _ _ s _ => s
noncomputable abbrev pa68 : Arguments := by
  refine (?f : (a : Arguments) → (b : List Stmt) → (s : Scope) → fdAt 5 0 = some (a, b, s) → Arguments) _ _ _ rfl
  exact fun a _ _ _ => a
noncomputable abbrev bd68 : List Stmt := by
  refine (?f : (a : Arguments) → (b : List Stmt) → (s : Scope) → fdAt 5 0 = some (a, b, s) → List Stmt) _ _ _ rfl
  exact fun _ b _ _ => b
noncomputable abbrev sc68 : Scope := by
  refine (?f : (a : Arguments) → (b : List Stmt) → (s : Scope) → fdAt 5 0 = some (a, b, s) → Scope) _ _ _ rfl
  exact fun _ _ s _ => s
noncomputable abbrev pa75 : Arguments := by
  refine (?f : (a : Arguments) → (b : List Stmt) → (s : Scope) → fdAt 5 1 = some (a, b, s) → Arguments) _ _ _ rfl
  exact fun a _ _ _ => a
noncomputable abbrev bd75 : List Stmt := by
  refine (?f : (a : Arguments) → (b : List Stmt) → (s : Scope) → fdAt 5 1 = some (a, b, s) → List Stmt) _ _ _ rfl
  exact fun _ b _ _ => b
noncomputable abbrev sc75 : Scope := by
  refine (?f : (a : Arguments) → (b : List Stmt) → (s : Scope) → fdAt 5 1 = some (a, b, s) → Scope) _ _ _ rfl
  exact fun _ _ s _ => s
noncomputable abbrev pa89 : Arguments := by
  refine (?f : (a : Arguments) → (b : List Stmt) → (s : Scope) → fdAt 6 0 = some (a, b, s) → Arguments) _ _ _ rfl
  exact fun a _ _ _ => a
noncomputable abbrev bd89 : List Stmt := by
  refine (?f : (a : Arguments) → (b : List Stmt) → (s : Scope) → fdAt 6 0 = some (a, b, s) → List Stmt) _ _ _ rfl
  exact fun _ b _ _ => b
noncomputable abbrev sc89 : Scope := by
  refine (?f : (a : Arguments) → (b : List Stmt) → (s : Scope) → fdAt 6 0 = some (a, b, s) → Scope) _ _ _ rfl
  exact fun _ _ s _ => s
noncomputable abbrev pa97 : Arguments := by
  refine (?f : (a : Arguments) → (b : List Stmt) → (s : Scope) → fdAt 7 0 = some (a, b, s) → Arguments) _ _ _ rfl
  exact fun a _ _ _ => a
noncomputable abbrev bd97 : List Stmt := by
  refine (?f : (a : Arguments) → (b : List Stmt) → (s : Scope) → fdAt 7 0 = some (a, b, s) → List Stmt) _ _ _ rfl
  exact fun _ b _ _ => b
noncomputable abbrev sc97 : Scope := by
  refine (?f : (a : Arguments) → (b : List Stmt) → (s : Scope) → fdAt 7 0 = some (a, b, s) → Scope) _ _ _ rfl
  exact fun _ _ s _ => s
noncomputable abbrev pa111 : Arguments := by
  refine (?f : (a : Arguments) → (b : List Stmt) → (s : Scope) → fdAt 11 0 = some (a, b, s) → Arguments) _ _ _ rfl
  exact fun a _ _ _ => a
noncomputable abbrev bd111 : List Stmt := by
  refine (?f : (a : Arguments) → (b : List Stmt) → (s : Scope) → fdAt 11 0 = some (a, b, s) → List Stmt) _ _ _ rfl
  exact fun _ b _ _ => b
noncomputable abbrev sc111 : Scope := by
  refine (?f : (a : Arguments) → (b : List Stmt) → (s : Scope) → fdAt 11 0 = some (a, b, s) → Scope) _ _ _ rfl
  exact fun _ _ s _ => s
noncomputable abbrev pa125 : Arguments := by
  refine (?f : (a : Arguments) → (b : List Stmt) → (s : Scope) → fdAt 12 0 = some (a, b, s) → Arguments) _ _ _ rfl
  exact fun a _ _ _ => a
noncomputable abbrev bd125 : List Stmt := by
  refine (?f : (a : Arguments) → (b : List Stmt) → (s : Scope) → fdAt 12 0 = some (a, b, s) → List Stmt) _ _ _ rfl
  exact fun _ b _ _ => b
noncomputable abbrev sc125 : Scope := by
  refine (?f : (a : Arguments) → (b : List Stmt) → (s : Scope) → fdAt 12 0 = some (a, b, s) → Scope) _ _ _ rfl
  exact fun _ _ s _ => s
noncomputable abbrev pa132 : Arguments := by
  refine (?f : (a : Arguments) → (b : List Stmt) → (s : Scope) → fdAt 13 0 = some (a, b, s) → Arguments) _ _ _ rfl
  exact fun a _ _ _ => a
noncomputable abbrev bd132 : List Stmt := by
  refine (?f : (a : Arguments) → (b : List Stmt) → (s : Scope) → fdAt 13 0 = some (a, b, s) → List Stmt) _ _ _ rfl
  exact fun _ b _ _ => b
noncomputable abbrev sc132 : Scope := by
  refine (?f : (a : Arguments) → (b : List Stmt) → (s : Scope) → fdAt 13 0 = some (a, b, s) → Scope) _ _ _ rfl
  exact fun _ _ s _ => s
noncomputable abbrev pa139 : Arguments := by
  refine (?f : (a : Arguments) → (b : List Stmt) → (s : Scope) → fdAt 14 0 = some (a, b, s) → Arguments) _ _ _ rfl
  exact fun a _ _ _ => a
noncomputable abbrev bd139 : List Stmt := by
  refine (?f : (a : Arguments) → (b : List Stmt) → (s : Scope) → fdAt 14 0 = some (a, b, s) → List Stmt) _ _ _ rfl
  exact fun _ b _ _ => b
noncomputable abbrev sc139 : Scope := by
  refine (?f : (a : Arguments) → (b : List Stmt) → (s : Scope) → fdAt 14 0 = some (a, b, s) → Scope) _ _ _ rfl
  exact fun _ _ s _ => s
noncomputable abbrev pa146 : Arguments := by
  refine (?f : (a : Arguments) → (b : List Stmt) → (s : Scope) → fdAt 15 0 = some (a, b, s) → Arguments) _ _ _ rfl
  exact fun a _ _ _ => a
noncomputable abbrev bd146 : List Stmt := by
  refine (?f : (a : Arguments) → (b : List Stmt) → (s : Scope) → fdAt 15 0 = some (a, b, s) → List Stmt) _ _ _ rfl
  exact fun _ b _ _ => b
noncomputable abbrev sc146 : Scope := by
  refine (?f : (a : Arguments) → (b : List Stmt) → (s : Scope) → fdAt 15 0 = some (a, b, s) → Scope) _ _ _ rfl
  exact fun _ _ s _ => s
noncomputable abbrev pa153 : Arguments := by
  refine (?f : (a : Arguments) → (b : List Stmt) → (s : Scope) → fdAt 16 0 = some (a, b, s) → Arguments) _ _ _ rfl
  exact fun a _ _ _ => a
noncomputable abbrev bd153 : List Stmt := by
  refine (?f : (a : Arguments) → (b : List Stmt) → (s : Scope) → fdAt 16 0 = some (a, b, s) → List Stmt) _ _ _ rfl
  exact fun _ b _ _ => b
noncomputable abbrev sc153 : Scope := by
  refine (?f : (a : Arguments) → (b : List Stmt) → (s : Scope) → fdAt 16 0 = some (a, b, s) → Scope) _ _ _ rfl
  exact fun _ _ s _ => s
noncomputable abbrev pa160 : Arguments := by
  refine (?f : (a : Arguments) → (b : List Stmt) → (s : Scope) → fdAt 17 0 = some (a, b, s) → Arguments) _ _ _ rfl
  exact fun a _ _ _ => a
noncomputable abbrev bd160 : List Stmt := by
  refine (?f : (a : Arguments) → (b : List Stmt) → (s : Scope) → fdAt 17 0 = some (a, b, s) → List Stmt) _ _ _ rfl
  exact fun _ b _ _ => b
noncomputable abbrev sc160 : Scope := by
  refine (?f : (a : Arguments) → (b : List Stmt) → (s : Scope) → fdAt 17 0 = some (a, b, s) → Scope) _ _ _ rfl
  exact fun _ _ s _ => s
noncomputable abbrev pa167 : Arguments := by
  refine (?f : (a : Arguments) → (b : List Stmt) → (s : Scope) → fdAt 18 0 = some (a, b, s) → Arguments) _ _ _ rfl
  exact fun a _ _ _ => a
noncomputable abbrev bd167 : List Stmt := by
  refine (?f : (a : Arguments) → (b : List Stmt) → (s : Scope) → fdAt 18 0 = some (a, b, s) → List Stmt) _ _ _ rfl
  exact fun _ b _ _ => b
noncomputable abbrev sc167 : Scope := by
  refine (?f : (a : Arguments) → (b : List Stmt) → (s : Scope) → fdAt 18 0 = some (a, b, s) → Scope) _ _ _ rfl
  exact fun _ _ s _ => s
noncomputable abbrev pa182 : Arguments := by
  refine (?f : (a : Arguments) → (b : List Stmt) → (s : Scope) → fdAt 19 0 = some (a, b, s) → Arguments) _ _ _ rfl
  exact fun a _ _ _ => a
noncomputable abbrev bd182 : List Stmt := by
  refine (?f : (a : Arguments) → (b : List Stmt) → (s : Scope) → fdAt 19 0 = some (a, b, s) → List Stmt) _ _ _ rfl
  exact fun _ b _ _ => b
noncomputable abbrev sc182 : Scope := by
  refine (?f : (a : Arguments) → (b : List Stmt) → (s : Scope) → fdAt 19 0 = some (a, b, s) → Scope) _ _ _ rfl
  exact fun _ _ s _ => s
noncomputable abbrev pa189 : Arguments := by
  refine (?f : (a : Arguments) → (b : List Stmt) → (s : Scope) → fdAt 19 1 = some (a, b, s) → Arguments) _ _ _ rfl
  exact fun a _ _ _ => a
noncomputable abbrev bd189 : List Stmt := by
  refine (?f : (a : Arguments) → (b : List Stmt) → (s : Scope) → fdAt 19 1 = some (a, b, s) → List Stmt) _ _ _ rfl
  exact fun _ b _ _ => b
noncomputable abbrev sc189 : Scope := by
  refine (?f : (a : Arguments) → (b : List Stmt) → (s : Scope) → fdAt 19 1 = some (a, b, s) → Scope) _ _ _ rfl
  exact fun _ _ s _ => s
noncomputable abbrev pa196 : Arguments := by
  refine (?f : (a : Arguments) → (b : List Stmt) → (s : Scope) → fdAt 19 2 = some (a, b, s) → Arguments) _ _ _ rfl
  exact fun a _ _ _ => a
noncomputable abbrev bd196 : List Stmt := by
  refine (?f : (a : Arguments) → (b : List Stmt) → (s : Scope) → fdAt 19 2 = some (a, b, s) → List Stmt) _ _ _ rfl
  exact fun _ b _ _ => b
noncomputable abbrev sc196 : Scope := by
  refine (?f : (a : Arguments) → (b : List Stmt) → (s : Scope) → fdAt 19 2 = some (a, b, s) → Scope) _ _ _ rfl
  exact fun _ _ s _ => s
noncomputable abbrev pa203 : Arguments := by
  refine (?f : (a : Arguments) → (b : List Stmt) → (s : Scope) → fdAt 19 3 = some (a, b, s) → Arguments) _ _ _ rfl
  exact fun a _ _ _ => a
noncomputable abbrev bd203 : List Stmt := by
  refine (?f : (a : Arguments) → (b : List Stmt) → (s : Scope) → fdAt 19 3 = some (a, b, s) → List Stmt) _ _ _ rfl
  exact fun _ b _ _ => b
noncomputable abbrev sc203 : Scope := by
  refine (?f : (a : Arguments) → (b : List Stmt) → (s : Scope) → fdAt 19 3 = some (a, b, s) → Scope) _ _ _ rfl
  exact fun _ _ s _ => s
noncomputable abbrev pa210 : Arguments := by
  refine (?f : (a : Arguments) → (b : List Stmt) → (s : Scope) → fdAt 19 4 = some (a, b, s) → Arguments) _ _ _ rfl
  exact fun a _ _ _ => a
noncomputable abbrev bd210 : List Stmt := by
  refine (?f : (a : Arguments) → (b : List Stmt) → (s : Scope) → fdAt 19 4 = some (a, b, s) → List Stmt) _ _ _ rfl
  exact fun _ b _ _ => b
noncomputable abbrev sc210 : Scope := by
  refine (?f : (a : Arguments) → (b : List Stmt) → (s : Scope) → fdAt 19 4 = some (a, b, s) → Scope) _ _ _ rfl
  exact fun _ _ s _ => s
noncomputable abbrev pa217 : Arguments := by
  refine (?f : (a : Arguments) → (b : List Stmt) → (s : Scope) → fdAt 19 5 = some (a, b, s) → Arguments) _ _ _ rfl
  exact fun a _ _ _ => a
noncomputable abbrev bd217 : List Stmt := by
  refine (?f : (a : Arguments) → (b : List Stmt) → (s : Scope) → fdAt 19 5 = some (a, b, s) → List Stmt) _ _ _ rfl
  exact fun _ b _ _ => b
noncomputable abbrev sc217 : Scope := by
  refine (?f : (a : Arguments) → (b : List Stmt) → (s : Scope) → fdAt 19 5 = some (a, b, s) → Scope) _ _ _ rfl
  exact fun _ _ s _ => s
noncomputable abbrev pa224 : Arguments := by
  refine (?f : (a : Arguments) → (b : List Stmt) → (s : Scope) → fdAt 19 6 = some (a, b, s) → Arguments) _ _ _ rfl
  exact fun a _ _ _ => a
noncomputable abbrev bd224 : List Stmt := by
  refine (?f : (a : Arguments) → (b : List Stmt) → (s : Scope) → fdAt 19 6 = some (a, b, s) → List Stmt) _ _ _ rfl
  exact fun _ b _ _ => b
noncomputable abbrev sc224 : Scope := by
  refine (?f : (a : Arguments) → (b : List Stmt) → (s : Scope) → fdAt 19 6 = some (a, b, s) → Scope) _ _ _ rfl
  exact fun _ _ s _ => s
noncomputable abbrev pa231 : Arguments := by
  refine (?f : (a : Arguments) → (b : List Stmt) → (s : Scope) → fdAt 19 7 = some (a, b, s) → Arguments) _ _ _ rfl
  exact fun a _ _ _ => a
noncomputable abbrev bd231 : List Stmt := by
  refine (?f : (a : Arguments) → (b : List Stmt) → (s : Scope) → fdAt 19 7 = some (a, b, s) → List Stmt) _ _ _ rfl
  exact fun _ b _ _ => b
noncomputable abbrev sc231 : Scope := by
  refine (?f : (a : Arguments) → (b : List Stmt) → (s : Scope) → fdAt 19 7 = some (a, b, s) → Scope) _ _ _ rfl
  exact fun _ _ s _ => s
noncomputable abbrev pa238 : Arguments := by
  refine (?f : (a : Arguments) → (b : List Stmt) → (s : Scope) → fdAt 19 8 = some (a, b, s) → Arguments) _ _ _ rfl
  exact fun a _ _ _ => a
noncomputable abbrev bd238 : List Stmt := by
  refine (?f : (a : Arguments) → (b : List Stmt) → (s : Scope) → fdAt 19 8 = some (a, b, s) → List Stmt) _ _ _ rfl
  exact fun _ b _ _ => b
noncomputable abbrev sc238 : Scope := by
  refine (?f : (a : Arguments) → (b : List Stmt) → (s : Scope) → fdAt 19 8 = some (a, b, s) → Scope) _ _ _ rfl
  exact fun _ _ s _ => s
noncomputable abbrev pa245 : Arguments := by
  refine (?f : (a : Arguments) → (b : List Stmt) → (s : Scope) → fdAt 19 9 = some (a, b, s) → Arguments) _ _ _ rfl
  exact fun a _ _ _ => a
noncomputable abbrev bd245 : List Stmt := by
  refine (?f : (a : Arguments) → (b : List Stmt) → (s : Scope) → fdAt 19 9 = some (a, b, s) → List Stmt) _ _ _ rfl
  exact fun _ b _ _ => b
noncomputable abbrev sc245 : Scope := by
  refine (?f : (a : Arguments) → (b : List Stmt) → (s : Scope) → fdAt 19 9 = some (a, b, s) → Scope) _ _ _ rfl
  exact fun _ _ s _ => s
noncomputable abbrev pa252 : Arguments := by
  refine (?f : (a : Arguments) → (b : List Stmt) → (s : Scope) → fdAt 19 10 = some (a, b, s) → Arguments) _ _ _ rfl
  exact fun a _ _ _ => a
noncomputable abbrev bd252 : List Stmt := by
  refine (?f : (a : Arguments) → (b : List Stmt) → (s : Scope) → fdAt 19 10 = some (a, b, s) → List Stmt) _ _ _ rfl
  exact fun _ b _ _ => b
noncomputable abbrev sc252 : Scope := by
  refine (?f : (a : Arguments) → (b : List Stmt) → (s : Scope) → fdAt 19 10 = some (a, b, s) → Scope) _ _ _ rfl
  exact fun _ _ s _ => s
noncomputable abbrev pa259 : Arguments := by
  refine (?f : (a : Arguments) → (b : List Stmt) → (s : Scope) → fdAt 19 11 = some (a, b, s) → Arguments) _ _ _ rfl
  exact fun a _ _ _ => a
noncomputable abbrev bd259 : List Stmt := by
  refine (?f : (a : Arguments) → (b : List Stmt) → (s : Scope) → fdAt 19 11 = some (a, b, s) → List Stmt) _ _ _ rfl
  exact fun _ b _ _ => b
noncomputable abbrev sc259 : Scope := by
  refine (?f : (a : Arguments) → (b : List Stmt) → (s : Scope) → fdAt 19 11 = some (a, b, s) → Scope) _ _ _ rfl
  exact fun _ _ s _ => s
noncomputable abbrev pa266 : Arguments := by
  refine (?f : (a : Arguments) → (b : List Stmt) → (s : Scope) → fdAt 19 12 = some (a, b, s) → Arguments) _ _ _ rfl
  exact fun a _ _ _ => a
noncomputable abbrev bd266 : List Stmt := by
  refine (?f : (a : Arguments) → (b : List Stmt) → (s : Scope) → fdAt 19 12 = some (a, b, s) → List Stmt) _ _ _ rfl
  exact fun _ b _ _ => b
noncomputable abbrev sc266 : Scope := by
  refine (?f : (a : Arguments) → (b : List Stmt) → (s : Scope) → fdAt 19 12 = some (a, b, s) → Scope) _ _ _ rfl
  exact fun _ _ s _ => s
noncomputable abbrev pa273 : Arguments := by
  refine (?f : (a : Arguments) → (b : List Stmt) → (s : Scope) → fdAt 19 13 = some (a, b, s) → Arguments) _ _ _ rfl
  exact fun a _ _ _ => a
noncomputable abbrev bd273 : List Stmt := by
  refine (?f : (a : Arguments) → (b : List Stmt) → (s : Scope) → fdAt 19 13 = some (a, b, s) → List Stmt) _ _ _ rfl
  exact fun _ b _ _ => b
noncomputable abbrev sc273 : Scope := by
  refine (?f : (a : Arguments) → (b : List Stmt) → (s : Scope) → fdAt 19 13 = some (a, b, s) → Scope) _ _ _ rfl
  exact fun _ _ s _ => s
noncomputable abbrev pa280 : Arguments := by
  refine (?f : (a : Arguments) → (b : List Stmt) → (s : Scope) → fdAt 19 14 = some (a, b, s) → Arguments) _ _ _ rfl
  exact fun a _ _ _ => a
noncomputable abbrev bd280 : List Stmt := by
  refine (?f : (a : Arguments) → (b : List Stmt) → (s : Scope) → fdAt 19 14 = some (a, b, s) → List Stmt) _ _ _ rfl
  exact fun _ b _ _ => b
noncomputable abbrev sc280 : Scope := by
  refine (?f : (a : Arguments) → (b : List Stmt) → (s : Scope) → fdAt 19 14 = some (a, b, s) → Scope) _ _ _ rfl
  exact fun _ _ s _ => s
noncomputable abbrev pa287 : Arguments := by
  refine (?f : (a : Arguments) → (b : List Stmt) → (s : Scope) → fdAt 19 15 = some (a, b, s) → Arguments) _ _ _ rfl
  exact fun a _ _ _ => a
noncomputable abbrev bd287 : List Stmt := by
  refine (?f : (a : Arguments) → (b : List Stmt) → (s : Scope) → fdAt 19 15 = some (a, b, s) → List Stmt) _ _ _ rfl
  exact fun _ b _ _ => b
noncomputable abbrev sc287 : Scope := by
  refine (?f : (a : Arguments) → (b : List Stmt) → (s : Scope) → fdAt 19 15 = some (a, b, s) → Scope) _ _ _ rfl
  exact fun _ _ s _ => s
noncomputable abbrev pa294 : Arguments := by
  refine (?f : (a : Arguments) → (b : List Stmt) → (s : Scope) → fdAt 19 16 = some (a, b, s) → Arguments) _ _ _ rfl
  exact fun a _ _ _ => a
noncomputable abbrev bd294 : List Stmt := by
  refine (?f : (a : Arguments) → (b : List Stmt) → (s : Scope) → fdAt 19 16 = some (a, b, s) → List Stmt) _ _ _ rfl
  exact fun _ b _ _ => b
noncomputable abbrev sc294 : Scope := by
  refine (?f : (a : Arguments) → (b : List Stmt) → (s : Scope) → fdAt 19 16 = some (a, b, s) → Scope) _ _ _ rfl
  exact fun _ _ s _ => s
noncomputable abbrev pa308 : Arguments := by
  refine (?f : (a : Arguments) → (b : List Stmt) → (s : Scope) → fdAt 21 0 = some (a, b, s) → Arguments) _ _ _ rfl
  exact fun a _ _ _ => a
noncomputable abbrev bd308 : List Stmt := by
  refine (?f : (a : Arguments) → (b : List Stmt) → (s : Scope) → fdAt 21 0 = some (a, b, s) → List Stmt) _ _ _ rfl
  exact fun _ b _ _ => b
noncomputable abbrev sc308 : Scope := by
  refine (?f : (a : Arguments) → (b : List Stmt) → (s : Scope) → fdAt 21 0 = some (a, b, s) → Scope) _ _ _ rfl
  exact fun _ _ s _ => s
noncomputable abbrev pa315 : Arguments := by
  refine (?f : (a : Arguments) → (b : List Stmt) → (s : Scope) → fdAt 22 0 = some (a, b, s) → Arguments) _ _ _ rfl
  exact fun a _ _ _ => a
noncomputable abbrev bd315 : List Stmt := by
  refine (?f : (a : Arguments) → (b : List Stmt) → (s : Scope) → fdAt 22 0 = some (a, b, s) → List Stmt) _ _ _ rfl
  exact fun _ b _ _ => b
noncomputable abbrev sc315 : Scope := by
  refine (?f : (a : Arguments) → (b : List Stmt) → (s : Scope) → fdAt 22 0 = some (a, b, s) → Scope) _ _ _ rfl
  exact fun _ _ s _ => s
noncomputable abbrev pa322 : Arguments := by
  refine (?f : (a : Arguments) → (b : List Stmt) → (s : Scope) → fdAt 23 0 = some (a, b, s) → Arguments) _ _ _ rfl
  exact fun a _ _ _ => a
noncomputable abbrev bd322 : List Stmt := by
  refine (?f : (a : Arguments) → (b : List Stmt) → (s : Scope) → fdAt 23 0 = some (a, b, s) → List Stmt) _ _ _ rfl
  exact fun _ b _ _ => b
noncomputable abbrev sc322 : Scope := by
  refine (?f : (a : Arguments) → (b : List Stmt) → (s : Scope) → fdAt 23 0 = some (a, b, s) → Scope) _ _ _ rfl
  exact fun _ _ s _ => s
noncomputable abbrev pa329 : Arguments := by
  refine (?f : (a : Arguments) → (b : List Stmt) → (s : Scope) → fdAt 24 0 = some (a, b, s) → Arguments) _ _ _ rfl
  exact fun a _ _ _ => a
noncomputable abbrev bd329 : List Stmt := by
  refine (?f : (a : Arguments) → (b : List Stmt) → (s : Scope) → fdAt 24 0 = some (a, b, s) → List Stmt) _ _ _ rfl
  exact fun _ b _ _ => b
noncomputable abbrev sc329 : Scope := by
  refine (?f : (a : Arguments) → (b : List Stmt) → (s : Scope) → fdAt 24 0 = some (a, b, s) → Scope) _ _ _ rfl
  exact fun _ _ s _ => s
noncomputable abbrev pa336 : Arguments := by
  refine (?f : (a : Arguments) → (b : List Stmt) → (s : Scope) → fdAt 25 0 = some (a, b, s) → Arguments) _ _ _ rfl
  exact fun a _ _ _ => a
noncomputable abbrev bd336 : List Stmt := by
  refine (?f : (a : Arguments) → (b : List Stmt) → (s : Scope) → fdAt 25 0 = some (a, b, s) → List Stmt) _ _ _ rfl
  exact fun _ b _ _ => b
noncomputable abbrev sc336 : Scope := by
  refine (?f : (a : Arguments) → (b : List Stmt) → (s : Scope) → fdAt 25 0 = some (a, b, s) → Scope) _ _ _ rfl
  exact fun _ _ s _ => s
noncomputable abbrev pa343 : Arguments := by
  refine (?f : (a : Arguments) → (b : List Stmt) → (s : Scope) → fdAt 26 0 = some (a, b, s) → Arguments) _ _ _ rfl
  exact fun a _ _ _ => a
noncomputable abbrev bd343 : List Stmt := by
  refine (?f : (a : Arguments) → (b : List Stmt) → (s : Scope) → fdAt 26 0 = some (a, b, s) → List Stmt) _ _ _ rfl
  exact fun _ b _ _ => b
noncomputable abbrev sc343 : Scope := by
  refine (?f : (a : Arguments) → (b : List Stmt) → (s : Scope) → fdAt 26 0 = some (a, b, s) → Scope) _ _ _ rfl
  exact fun _ _ s _ => s
noncomputable abbrev pa350 : Arguments := by
  refine (?f : (a : Arguments) → (b : List Stmt) → (s : Scope) → fdAt 27 0 = some (a, b, s) → Arguments) _ _ _ rfl
  exact fun a _ _ _ => a
noncomputable abbrev bd350 : List Stmt := by
  refine (?f : (a : Arguments) → (b : List Stmt) → (s : Scope) → fdAt 27 0 = some (a, b, s) → List Stmt) _ _ _ rfl
  exact fun _ b _ _ => b
noncomputable abbrev sc350 : Scope := by
  refine (?f : (a : Arguments) → (b : List Stmt) → (s : Scope) → fdAt 27 0 = some (a, b, s) → Scope) _ _ _ rfl
  exact fun _ _ s _ => s
noncomputable abbrev pa357 : Arguments := by
  refine (?f : (a : Arguments) → (b : List Stmt) → (s : Scope) → fdAt 28 0 = some (a, b, s) → Arguments) _ _ _ rfl
  exact fun a _ _ _ => a
noncomputable abbrev bd357 : List Stmt := by
  refine (?f : (a : Arguments) → (b : List Stmt) → (s : Scope) → fdAt 28 0 = some (a, b, s) → List Stmt) _ _ _ rfl
  exact fun _ b _ _ => b
noncomputable abbrev sc357 : Scope := by
  refine (?f : (a : Arguments) → (b : List Stmt) → (s : Scope) → fdAt 28 0 = some (a, b, s) → Scope) _ _ _ rfl
  exact fun _ _ s _ => s
noncomputable abbrev pa364 : Arguments := by
  refine (?f : (a : Arguments) → (b : List Stmt) → (s : Scope) → fdAt 29 0 = some (a, b, s) → Arguments) _ _ _ rfl
  exact fun a _ _ _ => a
noncomputable abbrev bd364 : List Stmt := by
  refine (?f : (a : Arguments) → (b : List Stmt) → (s : Scope) → fdAt 29 0 = some (a, b, s) → List Stmt) _ _ _ rfl
  exact fun _ b _ _ => b
noncomputable abbrev sc364 : Scope := by
  refine (?f : (a : Arguments) → (b : List Stmt) → (s : Scope) → fdAt 29 0 = some (a, b, s) → Scope) _ _ _ rfl
  exact fun _ _ s _ => s
noncomputable abbrev pa371 : Arguments := by
  refine (?f : (a : Arguments) → (b : List Stmt) → (s : Scope) → fdAt 30 0 = some (a, b, s) → Arguments) _ _ _ rfl
  exact fun a _ _ _ => a
noncomputable abbrev bd371 : List Stmt := by
  refine (?f : (a : Arguments) → (b : List Stmt) → (s : Scope) → fdAt 30 0 = some (a, b, s) → List Stmt) _ _ _ rfl
  exact fun _ b _ _ => b
noncomputable abbrev sc371 : Scope := by
  refine (?f : (a : Arguments) → (b : List Stmt) → (s : Scope) → fdAt 30 0 = some (a, b, s) → Scope) _ _ _ rfl
  exact fun _ _ s _ => s
noncomputable def hd.heap_39 : Params → Frag := fun P => 
(nat_lit 2, Obj.mk Value.none none (Data.dict #[DictEntry.mk (PyData.keyHash P (Str.ofString "type.__subclasses__.Exception.0")) (Value.str (Str.ofString "type.__subclasses__.Exception.0") 212) (Value.int 31 0), DictEntry.mk (PyData.keyHash P (Str.ofString "type.__subclasses__.Exception.n")) (Value.str (Str.ofString "type.__subclasses__.Exception.n") 213) (Value.int 1 0)] 2) #[]) ::
(nat_lit 3, Obj.mk (Value.type "dict") none (Data.dict #[DictEntry.mk (PyData.keyHash P (Str.ofString "__name__")) (Value.str (Str.ofString "__name__") 165) (Value.str (Str.ofString "law_no0507_01") 606), DictEntry.mk (PyData.keyHash P (Str.ofString "__doc__")) (Value.str (Str.ofString "__doc__") 166) Value.none, DictEntry.mk (PyData.keyHash P (Str.ofString "__package__")) (Value.str (Str.ofString "__package__") 167) Value.none, DictEntry.mk (PyData.keyHash P (Str.ofString "__loader__")) (Value.str (Str.ofString "__loader__") 168) (Value.builtin "__main__.__loader__#opaque"), DictEntry.mk (PyData.keyHash P (Str.ofString "__spec__")) (Value.str (Str.ofString "__spec__") 169) Value.none, DictEntry.mk (PyData.keyHash P (Str.ofString "__annotations__")) (Value.str (Str.ofString "__annotations__") 170) (Value.ref 6), DictEntry.mk (PyData.keyHash P (Str.ofString "__builtins__")) (Value.str (Str.ofString "__builtins__") 171) (Value.ref 4), DictEntry.mk (PyData.keyHash P (Str.ofString "__file__")) (Value.str (Str.ofString "__file__") 173) (Value.str (Str.ofString "/claim/cut.py") 172), DictEntry.mk (PyData.keyHash P (Str.ofString "__cached__")) (Value.str (Str.ofString "__cached__") 174) Value.none, DictEntry.mk (PyData.keyHash P (Str.ofString "_wall")) (Value.str (Str.ofString "_wall") 193) (Value.ref 21), DictEntry.mk (PyData.keyHash P (Str.ofString "CoveError")) (Value.str (Str.ofString "CoveError") 215) (Value.ref 31), DictEntry.mk (PyData.keyHash P (Str.ofString "ReadError")) (Value.str (Str.ofString "ReadError") 242) (Value.ref 51), DictEntry.mk (PyData.keyHash P (Str.ofString "Vector")) (Value.str (Str.ofString "Vector") 286) (Value.ref 78), DictEntry.mk (PyData.keyHash P (Str.ofString "whole")) (Value.str (Str.ofString "whole") 293) (Value.ref 89), DictEntry.mk (PyData.keyHash P (Str.ofString "number")) (Value.str (Str.ofString "number") 304) (Value.ref 97), DictEntry.mk (PyData.keyHash P (Str.ofString "MOST_EXPONENT")) (Value.str (Str.ofString "MOST_EXPONENT") 308) (Value.int 4096 307), DictEntry.mk (PyData.keyHash P (Str.ofString "MOST_INTEGER")) (Value.str (Str.ofString "MOST_INTEGER") 310) (Value.int 2147483647 309), DictEntry.mk (PyData.keyHash P (Str.ofString "Token")) (Value.str (Str.ofString "Token") 345) (Value.ref 114), DictEntry.mk (PyData.keyHash P (Str.ofString "keywords")) (Value.str (Str.ofString "keywords") 351) (Value.ref 125), DictEntry.mk (PyData.keyHash P (Str.ofString "is_letter")) (Value.str (Str.ofString "is_letter") 358) (Value.ref 132), DictEntry.mk (PyData.keyHash P (Str.ofString "is_digit")) (Value.str (Str.ofString "is_digit") 365) (Value.ref 139), DictEntry.mk (PyData.keyHash P (Str.ofString "is_name_char")) (Value.str (Str.ofString "is_name_char") 372) (Value.ref 146), DictEntry.mk (PyData.keyHash P (Str.ofString "hex_value")) (Value.str (Str.ofString "hex_value") 379) (Value.ref 153), DictEntry.mk (PyData.keyHash P (Str.ofString "simple_escape")) (Value.str (Str.ofString "simple_escape") 387) (Value.ref 160), DictEntry.mk (PyData.keyHash P (Str.ofString "digits_value")) (Value.str (Str.ofString "digits_value") 396) (Value.ref 167), DictEntry.mk (PyData.keyHash P (Str.ofString "Lexer")) (Value.str (Str.ofString "Lexer") 605) (Value.ref 297), DictEntry.mk (PyData.keyHash P (Str.ofString "_law_pool")) (Value.str (Str.ofString "_law_pool") 620) (Value.ref 308), DictEntry.mk (PyData.keyHash P (Str.ofString "_law_pick")) (Value.str (Str.ofString "_law_pick") 629) (Value.ref 315), DictEntry.mk (PyData.keyHash P (Str.ofString "_law_numeral")) (Value.str (Str.ofString "_law_numeral") 641) (Value.ref 322), DictEntry.mk (PyData.keyHash P (Str.ofString "_law_piece")) (Value.str (Str.ofString "_law_piece") 654) (Value.ref 329), DictEntry.mk (PyData.keyHash P (Str.ofString "_law_quoted")) (Value.str (Str.ofString "_law_quoted") 667) (Value.ref 336), DictEntry.mk (PyData.keyHash P (Str.ofString "_law_token")) (Value.str (Str.ofString "_law_token") 683) (Value.ref 343), DictEntry.mk (PyData.keyHash P (Str.ofString "_law_gap")) (Value.str (Str.ofString "_law_gap") 694) (Value.ref 350), DictEntry.mk (PyData.keyHash P (Str.ofString "_law_faults")) (Value.str (Str.ofString "_law_faults") 700) (Value.ref 357), DictEntry.mk (PyData.keyHash P (Str.ofString "_law_told")) (Value.str (Str.ofString "_law_told") 708) (Value.ref 364), DictEntry.mk (PyData.keyHash P (Str.ofString "law")) (Value.str (Str.ofString "law") 733) (Value.ref 371)] 36) #[]) ::
(nat_lit 15, Obj.mk (Value.type "tuple") none (Data.seq #[]) #[]) ::
(nat_lit 17, Obj.mk (Value.type "tuple") none (Data.seq #[Value.str (Str.ofString "k") 190]) #[]) ::
(nat_lit 18, Obj.mk (Value.type "tuple") none (Data.seq #[]) #[]) ::
(nat_lit 20, Obj.mk (Value.type "code") none (Data.fields #[Value.str (Str.ofString "_wall") 187, Value.str (Str.ofString "_wall") 188, Value.str (Str.ofString "/claim/cut.py") 189, Value.int 1 0, Value.int 1 0, Value.int 0 0, Value.int 0 0, Value.int 3 0, Value.ref 15, Value.bool true, Value.int 181 0, Value.ref 16, Value.none, Value.ref 17, Value.ref 18, Value.ref 19, Value.int 191 0, Value.int 1 0, Value.str (Str.ofString "/claim/cut.py") 192]) #[]) ::
(nat_lit 21, Obj.mk (Value.type "function") none (Data.func (FuncData.mk (Str.ofString "_wall") (Str.ofString "_wall") pa21 (FuncBody.stmts bd21) sc21 3 [] Value.none Value.none Value.none (Value.str (Str.ofString "__main__") 164) none (Value.ref 20) Value.none 0)) #[]) ::
(nat_lit 22, Obj.mk (Value.type "tuple") none (Data.seq #[Value.type "Exception"]) #[]) ::
(nat_lit 29, Obj.mk (Value.type "tuple") none (Data.seq #[]) #[]) ::
(nat_lit 30, Obj.mk (Value.type "dict") none (Data.dict #[DictEntry.mk (PyData.keyHash P (Str.ofString "__module__")) (Value.str (Str.ofString "__module__") 203) (Value.str (Str.ofString "vectorcove.errors") 194), DictEntry.mk (PyData.keyHash P (Str.ofString "__firstlineno__")) (Value.str (Str.ofString "__firstlineno__") 207) (Value.int 5 206), DictEntry.mk (PyData.keyHash P (Str.ofString "__static_attributes__")) (Value.str (Str.ofString "__static_attributes__") 208) (Value.ref 29), DictEntry.mk (PyData.keyHash P (Str.ofString "__weakref__")) (Value.str (Str.ofString "__weakref__") 210) (Value.ref 32), DictEntry.mk (PyData.keyHash P (Str.ofString "__doc__")) (Value.str (Str.ofString "__doc__") 211) Value.none] 3) #[]) ::
(nat_lit 31, Obj.mk (Value.type "type") none (Data.cls (ClassData.mk (Str.ofString "CoveError") [Value.type "Exception"] [Value.ref 31, Value.type "Exception", Value.type "BaseException", Value.type "object"] 30 (Str.ofString "CoveError") true [] [Value.ref 51] false none false)) #[some (Value.ref 22), none, some (Value.str (Str.ofString "CoveError") 196), some (Value.str (Str.ofString "CoveError") 204), some (Value.builtin "Exception.__new__"), some (Value.bool true)]) ::
(nat_lit 32, Obj.mk (Value.type "getset_descriptor") none (Data.fields #[Value.str (Str.ofString "__weakref__") 209, Value.ref 31, Value.builtin "ExceptionGroup.__weakref__", Value.none]) #[]) ::
(nat_lit 35, Obj.mk (Value.type "tuple") none (Data.seq #[Value.ref 31]) #[]) ::
(nat_lit 42, Obj.mk (Value.type "tuple") none (Data.seq #[]) #[]) ::
(nat_lit 44, Obj.mk (Value.type "tuple") none (Data.seq #[Value.str (Str.ofString "self") 231, Value.str (Str.ofString "kind") 232, Value.str (Str.ofString "at") 233]) #[]) ::
(nat_lit 45, Obj.mk (Value.type "tuple") none (Data.seq #[]) #[]) ::
(nat_lit 47, Obj.mk (Value.type "code") none (Data.fields #[Value.str (Str.ofString "__init__") 228, Value.str (Str.ofString "ReadError.__init__") 229, Value.str (Str.ofString "/claim/cut.py") 230, Value.int 9 0, Value.int 3 0, Value.int 0 0, Value.int 0 0, Value.int 3 0, Value.ref 42, Value.bool true, Value.int 181 0, Value.ref 43, Value.none, Value.ref 44, Value.ref 45, Value.ref 46, Value.int 234 0, Value.int 9 0, Value.str (Str.ofString "/claim/cut.py") 235]) #[]) ::
(nat_lit 48, Obj.mk (Value.type "function") none (Data.func (FuncData.mk (Str.ofString "__init__") (Str.ofString "ReadError.__init__") pa48 (FuncBody.stmts bd48) sc48 3 [] Value.none Value.none Value.none (Value.str (Str.ofString "vectorcove.errors") 194) none (Value.ref 47) Value.none 0)) #[]) ::
(nat_lit 49, Obj.mk (Value.type "tuple") none (Data.seq #[Value.str (Str.ofString "at") 237, Value.str (Str.ofString "kind") 238]) #[]) ::
(nat_lit 50, Obj.mk (Value.type "dict") none (Data.dict #[DictEntry.mk (PyData.keyHash P (Str.ofString "__module__")) (Value.str (Str.ofString "__module__") 223) (Value.str (Str.ofString "vectorcove.errors") 194), DictEntry.mk (PyData.keyHash P (Str.ofString "__firstlineno__")) (Value.str (Str.ofString "__firstlineno__") 227) (Value.int 7 226), DictEntry.mk (PyData.keyHash P (Str.ofString "__init__")) (Value.str (Str.ofString "__init__") 236) (Value.ref 48), DictEntry.mk (PyData.keyHash P (Str.ofString "__static_attributes__")) (Value.str (Str.ofString "__static_attributes__") 239) (Value.ref 49), DictEntry.mk (PyData.keyHash P (Str.ofString "__doc__")) (Value.str (Str.ofString "__doc__") 240) Value.none] 2) #[]) ::
(nat_lit 51, Obj.mk (Value.type "type") none (Data.cls (ClassData.mk (Str.ofString "ReadError") [Value.ref 31] [Value.ref 51, Value.ref 31, Value.type "Exception", Value.type "BaseException", Value.type "object"] 50 (Str.ofString "ReadError") true [] [] false none false)) #[some (Value.ref 35), none, some (Value.str (Str.ofString "ReadError") 216), some (Value.str (Str.ofString "ReadError") 224), some (Value.builtin "Exception.__new__"), some (Value.bool true)]) ::
(nat_lit 61, Obj.mk (Value.type "tuple") none (Data.seq #[Value.none]) #[]) ::
(nat_lit 62, Obj.mk (Value.type "tuple") none (Data.seq #[]) #[]) ::
(nat_lit 64, Obj.mk (Value.type "tuple") none (Data.seq #[Value.str (Str.ofString "self") 260, Value.str (Str.ofString "kind") 261, Value.str (Str.ofString "items") 262, Value.str (Str.ofString "attrs") 263]) #[]) ::
(nat_lit 65, Obj.mk (Value.type "tuple") none (Data.seq #[]) #[]) ::
(nat_lit 67, Obj.mk (Value.type "code") none (Data.fields #[Value.str (Str.ofString "__init__") 257, Value.str (Str.ofString "Vector.__init__") 258, Value.str (Str.ofString "/claim/cut.py") 259, Value.int 15 0, Value.int 4 0, Value.int 0 0, Value.int 0 0, Value.int 3 0, Value.ref 62, Value.bool true, Value.int 181 0, Value.ref 63, Value.none, Value.ref 64, Value.ref 65, Value.ref 66, Value.int 264 0, Value.int 15 0, Value.str (Str.ofString "/claim/cut.py") 265]) #[]) ::
(nat_lit 68, Obj.mk (Value.type "function") none (Data.func (FuncData.mk (Str.ofString "__init__") (Str.ofString "Vector.__init__") pa68 (FuncBody.stmts bd68) sc68 3 [] (Value.ref 61) Value.none Value.none (Value.str (Str.ofString "vectorcove.values") 243) none (Value.ref 67) Value.none 0)) #[]) ::
(nat_lit 69, Obj.mk (Value.type "tuple") none (Data.seq #[]) #[]) ::
(nat_lit 71, Obj.mk (Value.type "tuple") none (Data.seq #[Value.str (Str.ofString "self") 270]) #[]) ::
(nat_lit 72, Obj.mk (Value.type "tuple") none (Data.seq #[]) #[]) ::
(nat_lit 74, Obj.mk (Value.type "code") none (Data.fields #[Value.str (Str.ofString "copy") 267, Value.str (Str.ofString "Vector.copy") 268, Value.str (Str.ofString "/claim/cut.py") 269, Value.int 22 0, Value.int 1 0, Value.int 0 0, Value.int 0 0, Value.int 3 0, Value.ref 69, Value.bool true, Value.int 181 0, Value.ref 70, Value.none, Value.ref 71, Value.ref 72, Value.ref 73, Value.int 271 0, Value.int 22 0, Value.str (Str.ofString "/claim/cut.py") 272]) #[]) ::
(nat_lit 75, Obj.mk (Value.type "function") none (Data.func (FuncData.mk (Str.ofString "copy") (Str.ofString "Vector.copy") pa75 (FuncBody.stmts bd75) sc75 3 [] Value.none Value.none Value.none (Value.str (Str.ofString "vectorcove.values") 243) none (Value.ref 74) Value.none 0)) #[]) ::
(nat_lit 76, Obj.mk (Value.type "tuple") none (Data.seq #[Value.str (Str.ofString "attrs") 274, Value.str (Str.ofString "items") 275, Value.str (Str.ofString "kind") 276, Value.str (Str.ofString "loose") 277, Value.str (Str.ofString "shared") 278]) #[]) ::
(nat_lit 77, Obj.mk (Value.type "dict") none (Data.dict #[DictEntry.mk (PyData.keyHash P (Str.ofString "__module__")) (Value.str (Str.ofString "__module__") 252) (Value.str (Str.ofString "vectorcove.values") 243), DictEntry.mk (PyData.keyHash P (Str.ofString "__firstlineno__")) (Value.str (Str.ofString "__firstlineno__") 256) (Value.int 13 255), DictEntry.mk (PyData.keyHash P (Str.ofString "__init__")) (Value.str (Str.ofString "__init__") 266) (Value.ref 68), DictEntry.mk (PyData.keyHash P (Str.ofString "copy")) (Value.str (Str.ofString "copy") 273) (Value.ref 75), DictEntry.mk (PyData.keyHash P (Str.ofString "__static_attributes__")) (Value.str (Str.ofString "__static_attributes__") 279) (Value.ref 76), DictEntry.mk (PyData.keyHash P (Str.ofString "__dict__")) (Value.str (Str.ofString "__dict__") 281) (Value.ref 79), DictEntry.mk (PyData.keyHash P (Str.ofString "__weakref__")) (Value.str (Str.ofString "__weakref__") 283) (Value.ref 80), DictEntry.mk (PyData.keyHash P (Str.ofString "__doc__")) (Value.str (Str.ofString "__doc__") 284) Value.none] 4) #[]) ::
(nat_lit 78, Obj.mk (Value.type "type") none (Data.cls (ClassData.mk (Str.ofString "Vector") [Value.type "object"] [Value.ref 78, Value.type "object"] 77 (Str.ofString "Vector") true [] [] false none false)) #[none, none, some (Value.str (Str.ofString "Vector") 245), some (Value.str (Str.ofString "Vector") 253), some (Value.builtin "object.__new__"), some (Value.bool true)]) ::
(nat_lit 79, Obj.mk (Value.type "getset_descriptor") none (Data.fields #[Value.str (Str.ofString "__dict__") 280, Value.ref 78, Value.builtin "function.__dict__", Value.builtin "function.__dict__#set"]) #[]) ::
(nat_lit 80, Obj.mk (Value.type "getset_descriptor") none (Data.fields #[Value.str (Str.ofString "__weakref__") 282, Value.ref 78, Value.builtin "ExceptionGroup.__weakref__", Value.none]) #[]) ::
(nat_lit 83, Obj.mk (Value.type "tuple") none (Data.seq #[]) #[]) ::
(nat_lit 85, Obj.mk (Value.type "tuple") none (Data.seq #[Value.str (Str.ofString "n") 290]) #[]) ::
(nat_lit 86, Obj.mk (Value.type "tuple") none (Data.seq #[]) #[]) ::
(nat_lit 88, Obj.mk (Value.type "code") none (Data.fields #[Value.str (Str.ofString "whole") 287, Value.str (Str.ofString "whole") 288, Value.str (Str.ofString "/claim/cut.py") 289, Value.int 24 0, Value.int 1 0, Value.int 0 0, Value.int 0 0, Value.int 3 0, Value.ref 83, Value.bool true, Value.int 181 0, Value.ref 84, Value.none, Value.ref 85, Value.ref 86, Value.ref 87, Value.int 291 0, Value.int 24 0, Value.str (Str.ofString "/claim/cut.py") 292]) #[]) ::
(nat_lit 89, Obj.mk (Value.type "function") none (Data.func (FuncData.mk (Str.ofString "whole") (Str.ofString "whole") pa89 (FuncBody.stmts bd89) sc89 3 [] Value.none Value.none Value.none (Value.str (Str.ofString "vectorcove.values") 243) none (Value.ref 88) Value.none 0)) #[]) ::
(nat_lit 90, Obj.mk (Value.type "tuple") none (Data.seq #[Value.int 1 294]) #[]) ::
(nat_lit 91, Obj.mk (Value.type "tuple") none (Data.seq #[]) #[]) ::
(nat_lit 93, Obj.mk (Value.type "tuple") none (Data.seq #[Value.str (Str.ofString "n") 298, Value.str (Str.ofString "d") 299, Value.str (Str.ofString "a") 300, Value.str (Str.ofString "b") 301]) #[]) ::
(nat_lit 94, Obj.mk (Value.type "tuple") none (Data.seq #[]) #[]) ::
(nat_lit 96, Obj.mk (Value.type "code") none (Data.fields #[Value.str (Str.ofString "number") 295, Value.str (Str.ofString "number") 296, Value.str (Str.ofString "/claim/cut.py") 297, Value.int 26 0, Value.int 2 0, Value.int 0 0, Value.int 0 0, Value.int 3 0, Value.ref 91, Value.bool true, Value.int 181 0, Value.ref 92, Value.none, Value.ref 93, Value.ref 94, Value.ref 95, Value.int 302 0, Value.int 26 0, Value.str (Str.ofString "/claim/cut.py") 303]) #[]) ::
(nat_lit 97, Obj.mk (Value.type "function") none (Data.func (FuncData.mk (Str.ofString "number") (Str.ofString "number") pa97 (FuncBody.stmts bd97) sc97 3 [] (Value.ref 90) Value.none Value.none (Value.str (Str.ofString "vectorcove.values") 243) none (Value.ref 96) Value.none 0)) #[]) ::
(nat_lit 105, Obj.mk (Value.type "tuple") none (Data.seq #[]) #[]) ::
(nat_lit 107, Obj.mk (Value.type "tuple") none (Data.seq #[Value.str (Str.ofString "self") 326, Value.str (Str.ofString "kind") 327, Value.str (Str.ofString "value") 328, Value.str (Str.ofString "at") 329, Value.str (Str.ofString "newline") 330]) #[]) ::
(nat_lit 108, Obj.mk (Value.type "tuple") none (Data.seq #[]) #[]) ::
(nat_lit 110, Obj.mk (Value.type "code") none (Data.fields #[Value.str (Str.ofString "__init__") 323, Value.str (Str.ofString "Token.__init__") 324, Value.str (Str.ofString "/claim/cut.py") 325, Value.int 37 0, Value.int 5 0, Value.int 0 0, Value.int 0 0, Value.int 3 0, Value.ref 105, Value.bool true, Value.int 181 0, Value.ref 106, Value.none, Value.ref 107, Value.ref 108, Value.ref 109, Value.int 331 0, Value.int 37 0, Value.str (Str.ofString "/claim/cut.py") 332]) #[]) ::
(nat_lit 111, Obj.mk (Value.type "function") none (Data.func (FuncData.mk (Str.ofString "__init__") (Str.ofString "Token.__init__") pa111 (FuncBody.stmts bd111) sc111 3 [] Value.none Value.none Value.none (Value.str (Str.ofString "vectorcove.tokens") 305) none (Value.ref 110) Value.none 0)) #[]) ::
(nat_lit 112, Obj.mk (Value.type "tuple") none (Data.seq #[Value.str (Str.ofString "at") 334, Value.str (Str.ofString "kind") 335, Value.str (Str.ofString "newline") 336, Value.str (Str.ofString "value") 337]) #[]) ::
(nat_lit 113, Obj.mk (Value.type "dict") none (Data.dict #[DictEntry.mk (PyData.keyHash P (Str.ofString "__module__")) (Value.str (Str.ofString "__module__") 318) (Value.str (Str.ofString "vectorcove.tokens") 305), DictEntry.mk (PyData.keyHash P (Str.ofString "__firstlineno__")) (Value.str (Str.ofString "__firstlineno__") 322) (Value.int 35 321), DictEntry.mk (PyData.keyHash P (Str.ofString "__init__")) (Value.str (Str.ofString "__init__") 333) (Value.ref 111), DictEntry.mk (PyData.keyHash P (Str.ofString "__static_attributes__")) (Value.str (Str.ofString "__static_attributes__") 338) (Value.ref 112), DictEntry.mk (PyData.keyHash P (Str.ofString "__dict__")) (Value.str (Str.ofString "__dict__") 340) (Value.ref 115), DictEntry.mk (PyData.keyHash P (Str.ofString "__weakref__")) (Value.str (Str.ofString "__weakref__") 342) (Value.ref 116), DictEntry.mk (PyData.keyHash P (Str.ofString "__doc__")) (Value.str (Str.ofString "__doc__") 343) Value.none] 4) #[]) ::
(nat_lit 114, Obj.mk (Value.type "type") none (Data.cls (ClassData.mk (Str.ofString "Token") [Value.type "object"] [Value.ref 114, Value.type "object"] 113 (Str.ofString "Token") true [] [] false none false)) #[none, none, some (Value.str (Str.ofString "Token") 311), some (Value.str (Str.ofString "Token") 319), some (Value.builtin "object.__new__"), some (Value.bool true)]) ::
(nat_lit 115, Obj.mk (Value.type "getset_descriptor") none (Data.fields #[Value.str (Str.ofString "__dict__") 339, Value.ref 114, Value.builtin "function.__dict__", Value.builtin "function.__dict__#set"]) #[]) ::
(nat_lit 116, Obj.mk (Value.type "getset_descriptor") none (Data.fields #[Value.str (Str.ofString "__weakref__") 341, Value.ref 114, Value.builtin "ExceptionGroup.__weakref__", Value.none]) #[]) ::
(nat_lit 119, Obj.mk (Value.type "tuple") none (Data.seq #[]) #[]) ::
(nat_lit 121, Obj.mk (Value.type "tuple") none (Data.seq #[]) #[]) ::
(nat_lit 122, Obj.mk (Value.type "tuple") none (Data.seq #[]) #[]) ::
(nat_lit 124, Obj.mk (Value.type "code") none (Data.fields #[Value.str (Str.ofString "keywords") 346, Value.str (Str.ofString "keywords") 347, Value.str (Str.ofString "/claim/cut.py") 348, Value.int 42 0, Value.int 0 0, Value.int 0 0, Value.int 0 0, Value.int 3 0, Value.ref 119, Value.bool true, Value.int 181 0, Value.ref 120, Value.none, Value.ref 121, Value.ref 122, Value.ref 123, Value.int 349 0, Value.int 42 0, Value.str (Str.ofString "/claim/cut.py") 350]) #[]) ::
(nat_lit 125, Obj.mk (Value.type "function") none (Data.func (FuncData.mk (Str.ofString "keywords") (Str.ofString "keywords") pa125 (FuncBody.stmts bd125) sc125 3 [] Value.none Value.none Value.none (Value.str (Str.ofString "vectorcove.tokens") 305) none (Value.ref 124) Value.none 0)) #[]) ::
(nat_lit 126, Obj.mk (Value.type "tuple") none (Data.seq #[]) #[]) ::
(nat_lit 128, Obj.mk (Value.type "tuple") none (Data.seq #[Value.str (Str.ofString "char") 355]) #[]) ::
(nat_lit 129, Obj.mk (Value.type "tuple") none (Data.seq #[]) #[]) ::
(nat_lit 131, Obj.mk (Value.type "code") none (Data.fields #[Value.str (Str.ofString "is_letter") 352, Value.str (Str.ofString "is_letter") 353, Value.str (Str.ofString "/claim/cut.py") 354, Value.int 44 0, Value.int 1 0, Value.int 0 0, Value.int 0 0, Value.int 3 0, Value.ref 126, Value.bool true, Value.int 181 0, Value.ref 127, Value.none, Value.ref 128, Value.ref 129, Value.ref 130, Value.int 356 0, Value.int 44 0, Value.str (Str.ofString "/claim/cut.py") 357]) #[]) ::
(nat_lit 132, Obj.mk (Value.type "function") none (Data.func (FuncData.mk (Str.ofString "is_letter") (Str.ofString "is_letter") pa132 (FuncBody.stmts bd132) sc132 3 [] Value.none Value.none Value.none (Value.str (Str.ofString "vectorcove.tokens") 305) none (Value.ref 131) Value.none 0)) #[]) ::
(nat_lit 133, Obj.mk (Value.type "tuple") none (Data.seq #[]) #[]) ::
(nat_lit 135, Obj.mk (Value.type "tuple") none (Data.seq #[Value.str (Str.ofString "char") 362]) #[]) ::
(nat_lit 136, Obj.mk (Value.type "tuple") none (Data.seq #[]) #[]) ::
(nat_lit 138, Obj.mk (Value.type "code") none (Data.fields #[Value.str (Str.ofString "is_digit") 359, Value.str (Str.ofString "is_digit") 360, Value.str (Str.ofString "/claim/cut.py") 361, Value.int 46 0, Value.int 1 0, Value.int 0 0, Value.int 0 0, Value.int 3 0, Value.ref 133, Value.bool true, Value.int 181 0, Value.ref 134, Value.none, Value.ref 135, Value.ref 136, Value.ref 137, Value.int 363 0, Value.int 46 0, Value.str (Str.ofString "/claim/cut.py") 364]) #[]) ::
(nat_lit 139, Obj.mk (Value.type "function") none (Data.func (FuncData.mk (Str.ofString "is_digit") (Str.ofString "is_digit") pa139 (FuncBody.stmts bd139) sc139 3 [] Value.none Value.none Value.none (Value.str (Str.ofString "vectorcove.tokens") 305) none (Value.ref 138) Value.none 0)) #[]) ::
(nat_lit 140, Obj.mk (Value.type "tuple") none (Data.seq #[]) #[]) ::
(nat_lit 142, Obj.mk (Value.type "tuple") none (Data.seq #[Value.str (Str.ofString "char") 369]) #[]) ::
(nat_lit 143, Obj.mk (Value.type "tuple") none (Data.seq #[]) #[]) ::
(nat_lit 145, Obj.mk (Value.type "code") none (Data.fields #[Value.str (Str.ofString "is_name_char") 366, Value.str (Str.ofString "is_name_char") 367, Value.str (Str.ofString "/claim/cut.py") 368, Value.int 48 0, Value.int 1 0, Value.int 0 0, Value.int 0 0, Value.int 3 0, Value.ref 140, Value.bool true, Value.int 181 0, Value.ref 141, Value.none, Value.ref 142, Value.ref 143, Value.ref 144, Value.int 370 0, Value.int 48 0, Value.str (Str.ofString "/claim/cut.py") 371]) #[]) ::
(nat_lit 146, Obj.mk (Value.type "function") none (Data.func (FuncData.mk (Str.ofString "is_name_char") (Str.ofString "is_name_char") pa146 (FuncBody.stmts bd146) sc146 3 [] Value.none Value.none Value.none (Value.str (Str.ofString "vectorcove.tokens") 305) none (Value.ref 145) Value.none 0)) #[]) ::
(nat_lit 147, Obj.mk (Value.type "tuple") none (Data.seq #[]) #[]) ::
(nat_lit 149, Obj.mk (Value.type "tuple") none (Data.seq #[Value.str (Str.ofString "char") 376]) #[]) ::
(nat_lit 150, Obj.mk (Value.type "tuple") none (Data.seq #[]) #[]) ::
(nat_lit 152, Obj.mk (Value.type "code") none (Data.fields #[Value.str (Str.ofString "hex_value") 373, Value.str (Str.ofString "hex_value") 374, Value.str (Str.ofString "/claim/cut.py") 375, Value.int 50 0, Value.int 1 0, Value.int 0 0, Value.int 0 0, Value.int 3 0, Value.ref 147, Value.bool true, Value.int 181 0, Value.ref 148, Value.none, Value.ref 149, Value.ref 150, Value.ref 151, Value.int 377 0, Value.int 50 0, Value.str (Str.ofString "/claim/cut.py") 378]) #[]) ::
(nat_lit 153, Obj.mk (Value.type "function") none (Data.func (FuncData.mk (Str.ofString "hex_value") (Str.ofString "hex_value") pa153 (FuncBody.stmts bd153) sc153 3 [] Value.none Value.none Value.none (Value.str (Str.ofString "vectorcove.tokens") 305) none (Value.ref 152) Value.none 0)) #[]) ::
(nat_lit 154, Obj.mk (Value.type "tuple") none (Data.seq #[]) #[]) ::
(nat_lit 156, Obj.mk (Value.type "tuple") none (Data.seq #[Value.str (Str.ofString "char") 383, Value.str (Str.ofString "place") 384]) #[]) ::
(nat_lit 157, Obj.mk (Value.type "tuple") none (Data.seq #[]) #[]) ::
(nat_lit 159, Obj.mk (Value.type "code") none (Data.fields #[Value.str (Str.ofString "simple_escape") 380, Value.str (Str.ofString "simple_escape") 381, Value.str (Str.ofString "/claim/cut.py") 382, Value.int 54 0, Value.int 1 0, Value.int 0 0, Value.int 0 0, Value.int 3 0, Value.ref 154, Value.bool true, Value.int 181 0, Value.ref 155, Value.none, Value.ref 156, Value.ref 157, Value.ref 158, Value.int 385 0, Value.int 54 0, Value.str (Str.ofString "/claim/cut.py") 386]) #[]) ::
(nat_lit 160, Obj.mk (Value.type "function") none (Data.func (FuncData.mk (Str.ofString "simple_escape") (Str.ofString "simple_escape") pa160 (FuncBody.stmts bd160) sc160 3 [] Value.none Value.none Value.none (Value.str (Str.ofString "vectorcove.tokens") 305) none (Value.ref 159) Value.none 0)) #[]) ::
(nat_lit 161, Obj.mk (Value.type "tuple") none (Data.seq #[]) #[]) ::
(nat_lit 163, Obj.mk (Value.type "tuple") none (Data.seq #[Value.str (Str.ofString "text") 391, Value.str (Str.ofString "value") 392, Value.str (Str.ofString "digit") 393]) #[]) ::
(nat_lit 164, Obj.mk (Value.type "tuple") none (Data.seq #[]) #[]) ::
(nat_lit 166, Obj.mk (Value.type "code") none (Data.fields #[Value.str (Str.ofString "digits_value") 388, Value.str (Str.ofString "digits_value") 389, Value.str (Str.ofString "/claim/cut.py") 390, Value.int 61 0, Value.int 1 0, Value.int 0 0, Value.int 0 0, Value.int 3 0, Value.ref 161, Value.bool true, Value.int 181 0, Value.ref 162, Value.none, Value.ref 163, Value.ref 164, Value.ref 165, Value.int 394 0, Value.int 61 0, Value.str (Str.ofString "/claim/cut.py") 395]) #[]) ::
(nat_lit 167, Obj.mk (Value.type "function") none (Data.func (FuncData.mk (Str.ofString "digits_value") (Str.ofString "digits_value") pa167 (FuncBody.stmts bd167) sc167 3 [] Value.none Value.none Value.none (Value.str (Str.ofString "vectorcove.tokens") 305) none (Value.ref 166) Value.none 0)) #[]) ::
(nat_lit 175, Obj.mk (Value.type "tuple") none (Data.seq #[Value.int 0 409]) #[]) ::
(nat_lit 176, Obj.mk (Value.type "tuple") none (Data.seq #[]) #[]) ::
(nat_lit 178, Obj.mk (Value.type "tuple") none (Data.seq #[Value.str (Str.ofString "self") 413, Value.str (Str.ofString "text") 414, Value.str (Str.ofString "at") 415]) #[]) ::
(nat_lit 179, Obj.mk (Value.type "tuple") none (Data.seq #[]) #[]) ::
(nat_lit 181, Obj.mk (Value.type "code") none (Data.fields #[Value.str (Str.ofString "__init__") 410, Value.str (Str.ofString "Lexer.__init__") 411, Value.str (Str.ofString "/claim/cut.py") 412, Value.int 68 0, Value.int 3 0, Value.int 0 0, Value.int 0 0, Value.int 3 0, Value.ref 176, Value.bool true, Value.int 181 0, Value.ref 177, Value.none, Value.ref 178, Value.ref 179, Value.ref 180, Value.int 416 0, Value.int 68 0, Value.str (Str.ofString "/claim/cut.py") 417]) #[]) ::
(nat_lit 182, Obj.mk (Value.type "function") none (Data.func (FuncData.mk (Str.ofString "__init__") (Str.ofString "Lexer.__init__") pa182 (FuncBody.stmts bd182) sc182 3 [] (Value.ref 175) Value.none Value.none (Value.str (Str.ofString "vectorcove.tokens") 305) none (Value.ref 181) Value.none 0)) #[]) ::
(nat_lit 183, Obj.mk (Value.type "tuple") none (Data.seq #[]) #[]) ::
(nat_lit 185, Obj.mk (Value.type "tuple") none (Data.seq #[Value.str (Str.ofString "self") 422, Value.str (Str.ofString "index") 423]) #[]) ::
(nat_lit 186, Obj.mk (Value.type "tuple") none (Data.seq #[]) #[]) ::
(nat_lit 188, Obj.mk (Value.type "code") none (Data.fields #[Value.str (Str.ofString "char") 419, Value.str (Str.ofString "Lexer.char") 420, Value.str (Str.ofString "/claim/cut.py") 421, Value.int 74 0, Value.int 2 0, Value.int 0 0, Value.int 0 0, Value.int 3 0, Value.ref 183, Value.bool true, Value.int 181 0, Value.ref 184, Value.none, Value.ref 185, Value.ref 186, Value.ref 187, Value.int 424 0, Value.int 74 0, Value.str (Str.ofString "/claim/cut.py") 425]) #[]) ::
(nat_lit 189, Obj.mk (Value.type "function") none (Data.func (FuncData.mk (Str.ofString "char") (Str.ofString "Lexer.char") pa189 (FuncBody.stmts bd189) sc189 3 [] Value.none Value.none Value.none (Value.str (Str.ofString "vectorcove.tokens") 305) none (Value.ref 188) Value.none 0)) #[]) ::
(nat_lit 190, Obj.mk (Value.type "tuple") none (Data.seq #[]) #[]) ::
(nat_lit 192, Obj.mk (Value.type "tuple") none (Data.seq #[Value.str (Str.ofString "self") 430, Value.str (Str.ofString "kind") 431, Value.str (Str.ofString "value") 432, Value.str (Str.ofString "at") 433, Value.str (Str.ofString "end") 434]) #[]) ::
(nat_lit 193, Obj.mk (Value.type "tuple") none (Data.seq #[]) #[]) ::
(nat_lit 195, Obj.mk (Value.type "code") none (Data.fields #[Value.str (Str.ofString "token") 427, Value.str (Str.ofString "Lexer.token") 428, Value.str (Str.ofString "/claim/cut.py") 429, Value.int 77 0, Value.int 5 0, Value.int 0 0, Value.int 0 0, Value.int 3 0, Value.ref 190, Value.bool true, Value.int 181 0, Value.ref 191, Value.none, Value.ref 192, Value.ref 193, Value.ref 194, Value.int 435 0, Value.int 77 0, Value.str (Str.ofString "/claim/cut.py") 436]) #[]) ::
(nat_lit 196, Obj.mk (Value.type "function") none (Data.func (FuncData.mk (Str.ofString "token") (Str.ofString "Lexer.token") pa196 (FuncBody.stmts bd196) sc196 3 [] Value.none Value.none Value.none (Value.str (Str.ofString "vectorcove.tokens") 305) none (Value.ref 195) Value.none 0)) #[]) ::
(nat_lit 197, Obj.mk (Value.type "tuple") none (Data.seq #[]) #[]) ::
(nat_lit 199, Obj.mk (Value.type "tuple") none (Data.seq #[Value.str (Str.ofString "self") 441, Value.str (Str.ofString "at") 442, Value.str (Str.ofString "char") 443, Value.str (Str.ofString "value") 444, Value.str (Str.ofString "end") 445]) #[]) ::
(nat_lit 200, Obj.mk (Value.type "tuple") none (Data.seq #[]) #[]) ::
(nat_lit 202, Obj.mk (Value.type "code") none (Data.fields #[Value.str (Str.ofString "next_token") 438, Value.str (Str.ofString "Lexer.next_token") 439, Value.str (Str.ofString "/claim/cut.py") 440, Value.int 81 0, Value.int 1 0, Value.int 0 0, Value.int 0 0, Value.int 3 0, Value.ref 197, Value.bool true, Value.int 181 0, Value.ref 198, Value.none, Value.ref 199, Value.ref 200, Value.ref 201, Value.int 446 0, Value.int 81 0, Value.str (Str.ofString "/claim/cut.py") 447]) #[]) ::
(nat_lit 203, Obj.mk (Value.type "function") none (Data.func (FuncData.mk (Str.ofString "next_token") (Str.ofString "Lexer.next_token") pa203 (FuncBody.stmts bd203) sc203 3 [] Value.none Value.none Value.none (Value.str (Str.ofString "vectorcove.tokens") 305) none (Value.ref 202) Value.none 0)) #[]) ::
(nat_lit 204, Obj.mk (Value.type "tuple") none (Data.seq #[]) #[]) ::
(nat_lit 206, Obj.mk (Value.type "tuple") none (Data.seq #[Value.str (Str.ofString "self") 452, Value.str (Str.ofString "char") 453]) #[]) ::
(nat_lit 207, Obj.mk (Value.type "tuple") none (Data.seq #[]) #[]) ::
(nat_lit 209, Obj.mk (Value.type "code") none (Data.fields #[Value.str (Str.ofString "skip") 449, Value.str (Str.ofString "Lexer.skip") 450, Value.str (Str.ofString "/claim/cut.py") 451, Value.int 105 0, Value.int 1 0, Value.int 0 0, Value.int 0 0, Value.int 3 0, Value.ref 204, Value.bool true, Value.int 181 0, Value.ref 205, Value.none, Value.ref 206, Value.ref 207, Value.ref 208, Value.int 454 0, Value.int 105 0, Value.str (Str.ofString "/claim/cut.py") 455]) #[]) ::
(nat_lit 210, Obj.mk (Value.type "function") none (Data.func (FuncData.mk (Str.ofString "skip") (Str.ofString "Lexer.skip") pa210 (FuncBody.stmts bd210) sc210 3 [] Value.none Value.none Value.none (Value.str (Str.ofString "vectorcove.tokens") 305) none (Value.ref 209) Value.none 0)) #[]) ::
(nat_lit 211, Obj.mk (Value.type "tuple") none (Data.seq #[]) #[]) ::
(nat_lit 213, Obj.mk (Value.type "tuple") none (Data.seq #[Value.str (Str.ofString "self") 460, Value.str (Str.ofString "at") 461, Value.str (Str.ofString "end") 462, Value.str (Str.ofString "text") 463]) #[]) ::
(nat_lit 214, Obj.mk (Value.type "tuple") none (Data.seq #[]) #[]) ::
(nat_lit 216, Obj.mk (Value.type "code") none (Data.fields #[Value.str (Str.ofString "word") 457, Value.str (Str.ofString "Lexer.word") 458, Value.str (Str.ofString "/claim/cut.py") 459, Value.int 118 0, Value.int 2 0, Value.int 0 0, Value.int 0 0, Value.int 3 0, Value.ref 211, Value.bool true, Value.int 181 0, Value.ref 212, Value.none, Value.ref 213, Value.ref 214, Value.ref 215, Value.int 464 0, Value.int 118 0, Value.str (Str.ofString "/claim/cut.py") 465]) #[]) ::
(nat_lit 217, Obj.mk (Value.type "function") none (Data.func (FuncData.mk (Str.ofString "word") (Str.ofString "Lexer.word") pa217 (FuncBody.stmts bd217) sc217 3 [] Value.none Value.none Value.none (Value.str (Str.ofString "vectorcove.tokens") 305) none (Value.ref 216) Value.none 0)) #[]) ::
(nat_lit 218, Obj.mk (Value.type "tuple") none (Data.seq #[]) #[]) ::
(nat_lit 220, Obj.mk (Value.type "tuple") none (Data.seq #[Value.str (Str.ofString "self") 470, Value.str (Str.ofString "at") 471, Value.str (Str.ofString "end") 472]) #[]) ::
(nat_lit 221, Obj.mk (Value.type "tuple") none (Data.seq #[]) #[]) ::
(nat_lit 223, Obj.mk (Value.type "code") none (Data.fields #[Value.str (Str.ofString "percent") 467, Value.str (Str.ofString "Lexer.percent") 468, Value.str (Str.ofString "/claim/cut.py") 469, Value.int 127 0, Value.int 2 0, Value.int 0 0, Value.int 0 0, Value.int 3 0, Value.ref 218, Value.bool true, Value.int 181 0, Value.ref 219, Value.none, Value.ref 220, Value.ref 221, Value.ref 222, Value.int 473 0, Value.int 127 0, Value.str (Str.ofString "/claim/cut.py") 474]) #[]) ::
(nat_lit 224, Obj.mk (Value.type "function") none (Data.func (FuncData.mk (Str.ofString "percent") (Str.ofString "Lexer.percent") pa224 (FuncBody.stmts bd224) sc224 3 [] Value.none Value.none Value.none (Value.str (Str.ofString "vectorcove.tokens") 305) none (Value.ref 223) Value.none 0)) #[]) ::
(nat_lit 225, Obj.mk (Value.type "tuple") none (Data.seq #[]) #[]) ::
(nat_lit 227, Obj.mk (Value.type "tuple") none (Data.seq #[Value.str (Str.ofString "self") 479, Value.str (Str.ofString "at") 480, Value.str (Str.ofString "text") 481]) #[]) ::
(nat_lit 228, Obj.mk (Value.type "tuple") none (Data.seq #[]) #[]) ::
(nat_lit 230, Obj.mk (Value.type "code") none (Data.fields #[Value.str (Str.ofString "operator") 476, Value.str (Str.ofString "Lexer.operator") 477, Value.str (Str.ofString "/claim/cut.py") 478, Value.int 135 0, Value.int 2 0, Value.int 0 0, Value.int 0 0, Value.int 3 0, Value.ref 225, Value.bool true, Value.int 181 0, Value.ref 226, Value.none, Value.ref 227, Value.ref 228, Value.ref 229, Value.int 482 0, Value.int 135 0, Value.str (Str.ofString "/claim/cut.py") 483]) #[]) ::
(nat_lit 231, Obj.mk (Value.type "function") none (Data.func (FuncData.mk (Str.ofString "operator") (Str.ofString "Lexer.operator") pa231 (FuncBody.stmts bd231) sc231 3 [] Value.none Value.none Value.none (Value.str (Str.ofString "vectorcove.tokens") 305) none (Value.ref 230) Value.none 0)) #[]) ::
(nat_lit 232, Obj.mk (Value.type "tuple") none (Data.seq #[]) #[]) ::
(nat_lit 234, Obj.mk (Value.type "tuple") none (Data.seq #[Value.str (Str.ofString "self") 488, Value.str (Str.ofString "index") 489]) #[]) ::
(nat_lit 235, Obj.mk (Value.type "tuple") none (Data.seq #[]) #[]) ::
(nat_lit 237, Obj.mk (Value.type "code") none (Data.fields #[Value.str (Str.ofString "digits_end") 485, Value.str (Str.ofString "Lexer.digits_end") 486, Value.str (Str.ofString "/claim/cut.py") 487, Value.int 147 0, Value.int 2 0, Value.int 0 0, Value.int 0 0, Value.int 3 0, Value.ref 232, Value.bool true, Value.int 181 0, Value.ref 233, Value.none, Value.ref 234, Value.ref 235, Value.ref 236, Value.int 490 0, Value.int 147 0, Value.str (Str.ofString "/claim/cut.py") 491]) #[]) ::
(nat_lit 238, Obj.mk (Value.type "function") none (Data.func (FuncData.mk (Str.ofString "digits_end") (Str.ofString "Lexer.digits_end") pa238 (FuncBody.stmts bd238) sc238 3 [] Value.none Value.none Value.none (Value.str (Str.ofString "vectorcove.tokens") 305) none (Value.ref 237) Value.none 0)) #[]) ::
(nat_lit 239, Obj.mk (Value.type "tuple") none (Data.seq #[]) #[]) ::
(nat_lit 241, Obj.mk (Value.type "tuple") none (Data.seq #[Value.str (Str.ofString "self") 496, Value.str (Str.ofString "at") 497, Value.str (Str.ofString "end") 498, Value.str (Str.ofString "digits") 499, Value.str (Str.ofString "scale") 500, Value.str (Str.ofString "begin") 501, Value.str (Str.ofString "power") 502, Value.str (Str.ofString "top") 503]) #[]) ::
(nat_lit 242, Obj.mk (Value.type "tuple") none (Data.seq #[]) #[]) ::
(nat_lit 244, Obj.mk (Value.type "code") none (Data.fields #[Value.str (Str.ofString "numeral") 493, Value.str (Str.ofString "Lexer.numeral") 494, Value.str (Str.ofString "/claim/cut.py") 495, Value.int 152 0, Value.int 2 0, Value.int 0 0, Value.int 0 0, Value.int 3 0, Value.ref 239, Value.bool true, Value.int 181 0, Value.ref 240, Value.none, Value.ref 241, Value.ref 242, Value.ref 243, Value.int 504 0, Value.int 152 0, Value.str (Str.ofString "/claim/cut.py") 505]) #[]) ::
(nat_lit 245, Obj.mk (Value.type "function") none (Data.func (FuncData.mk (Str.ofString "numeral") (Str.ofString "Lexer.numeral") pa245 (FuncBody.stmts bd245) sc245 3 [] Value.none Value.none Value.none (Value.str (Str.ofString "vectorcove.tokens") 305) none (Value.ref 244) Value.none 0)) #[]) ::
(nat_lit 246, Obj.mk (Value.type "tuple") none (Data.seq #[]) #[]) ::
(nat_lit 248, Obj.mk (Value.type "tuple") none (Data.seq #[Value.str (Str.ofString "self") 510, Value.str (Str.ofString "at") 511, Value.str (Str.ofString "index") 512, Value.str (Str.ofString "minus") 513, Value.str (Str.ofString "end") 514, Value.str (Str.ofString "digits") 515]) #[]) ::
(nat_lit 249, Obj.mk (Value.type "tuple") none (Data.seq #[]) #[]) ::
(nat_lit 251, Obj.mk (Value.type "code") none (Data.fields #[Value.str (Str.ofString "exponent") 507, Value.str (Str.ofString "Lexer.exponent") 508, Value.str (Str.ofString "/claim/cut.py") 509, Value.int 171 0, Value.int 3 0, Value.int 0 0, Value.int 0 0, Value.int 3 0, Value.ref 246, Value.bool true, Value.int 181 0, Value.ref 247, Value.none, Value.ref 248, Value.ref 249, Value.ref 250, Value.int 516 0, Value.int 171 0, Value.str (Str.ofString "/claim/cut.py") 517]) #[]) ::
(nat_lit 252, Obj.mk (Value.type "function") none (Data.func (FuncData.mk (Str.ofString "exponent") (Str.ofString "Lexer.exponent") pa252 (FuncBody.stmts bd252) sc252 3 [] Value.none Value.none Value.none (Value.str (Str.ofString "vectorcove.tokens") 305) none (Value.ref 251) Value.none 0)) #[]) ::
(nat_lit 253, Obj.mk (Value.type "tuple") none (Data.seq #[]) #[]) ::
(nat_lit 255, Obj.mk (Value.type "tuple") none (Data.seq #[Value.str (Str.ofString "self") 522, Value.str (Str.ofString "at") 523, Value.str (Str.ofString "value") 524, Value.str (Str.ofString "end") 525]) #[]) ::
(nat_lit 256, Obj.mk (Value.type "tuple") none (Data.seq #[]) #[]) ::
(nat_lit 258, Obj.mk (Value.type "code") none (Data.fields #[Value.str (Str.ofString "hexadecimal") 519, Value.str (Str.ofString "Lexer.hexadecimal") 520, Value.str (Str.ofString "/claim/cut.py") 521, Value.int 183 0, Value.int 2 0, Value.int 0 0, Value.int 0 0, Value.int 3 0, Value.ref 253, Value.bool true, Value.int 181 0, Value.ref 254, Value.none, Value.ref 255, Value.ref 256, Value.ref 257, Value.int 526 0, Value.int 183 0, Value.str (Str.ofString "/claim/cut.py") 527]) #[]) ::
(nat_lit 259, Obj.mk (Value.type "function") none (Data.func (FuncData.mk (Str.ofString "hexadecimal") (Str.ofString "Lexer.hexadecimal") pa259 (FuncBody.stmts bd259) sc259 3 [] Value.none Value.none Value.none (Value.str (Str.ofString "vectorcove.tokens") 305) none (Value.ref 258) Value.none 0)) #[]) ::
(nat_lit 260, Obj.mk (Value.type "tuple") none (Data.seq #[]) #[]) ::
(nat_lit 262, Obj.mk (Value.type "tuple") none (Data.seq #[Value.str (Str.ofString "self") 532, Value.str (Str.ofString "n") 533, Value.str (Str.ofString "d") 534, Value.str (Str.ofString "at") 535, Value.str (Str.ofString "end") 536]) #[]) ::
(nat_lit 263, Obj.mk (Value.type "tuple") none (Data.seq #[]) #[]) ::
(nat_lit 265, Obj.mk (Value.type "code") none (Data.fields #[Value.str (Str.ofString "number_token") 529, Value.str (Str.ofString "Lexer.number_token") 530, Value.str (Str.ofString "/claim/cut.py") 531, Value.int 193 0, Value.int 5 0, Value.int 0 0, Value.int 0 0, Value.int 3 0, Value.ref 260, Value.bool true, Value.int 181 0, Value.ref 261, Value.none, Value.ref 262, Value.ref 263, Value.ref 264, Value.int 537 0, Value.int 193 0, Value.str (Str.ofString "/claim/cut.py") 538]) #[]) ::
(nat_lit 266, Obj.mk (Value.type "function") none (Data.func (FuncData.mk (Str.ofString "number_token") (Str.ofString "Lexer.number_token") pa266 (FuncBody.stmts bd266) sc266 3 [] Value.none Value.none Value.none (Value.str (Str.ofString "vectorcove.tokens") 305) none (Value.ref 265) Value.none 0)) #[]) ::
(nat_lit 267, Obj.mk (Value.type "tuple") none (Data.seq #[]) #[]) ::
(nat_lit 269, Obj.mk (Value.type "tuple") none (Data.seq #[Value.str (Str.ofString "self") 543, Value.str (Str.ofString "at") 544, Value.str (Str.ofString "quote") 545, Value.str (Str.ofString "chars") 546, Value.str (Str.ofString "index") 547, Value.str (Str.ofString "char") 548]) #[]) ::
(nat_lit 270, Obj.mk (Value.type "tuple") none (Data.seq #[]) #[]) ::
(nat_lit 272, Obj.mk (Value.type "code") none (Data.fields #[Value.str (Str.ofString "quoted") 540, Value.str (Str.ofString "Lexer.quoted") 541, Value.str (Str.ofString "/claim/cut.py") 542, Value.int 202 0, Value.int 2 0, Value.int 0 0, Value.int 0 0, Value.int 3 0, Value.ref 267, Value.bool true, Value.int 181 0, Value.ref 268, Value.none, Value.ref 269, Value.ref 270, Value.ref 271, Value.int 549 0, Value.int 202 0, Value.str (Str.ofString "/claim/cut.py") 550]) #[]) ::
(nat_lit 273, Obj.mk (Value.type "function") none (Data.func (FuncData.mk (Str.ofString "quoted") (Str.ofString "Lexer.quoted") pa273 (FuncBody.stmts bd273) sc273 3 [] Value.none Value.none Value.none (Value.str (Str.ofString "vectorcove.tokens") 305) none (Value.ref 272) Value.none 0)) #[]) ::
(nat_lit 274, Obj.mk (Value.type "tuple") none (Data.seq #[]) #[]) ::
(nat_lit 276, Obj.mk (Value.type "tuple") none (Data.seq #[Value.str (Str.ofString "self") 555, Value.str (Str.ofString "at") 556, Value.str (Str.ofString "char") 557, Value.str (Str.ofString "simple") 558, Value.str (Str.ofString "most") 559, Value.str (Str.ofString "found") 560, Value.str (Str.ofString "end") 561]) #[]) ::
(nat_lit 277, Obj.mk (Value.type "tuple") none (Data.seq #[]) #[]) ::
(nat_lit 279, Obj.mk (Value.type "code") none (Data.fields #[Value.str (Str.ofString "escape") 552, Value.str (Str.ofString "Lexer.escape") 553, Value.str (Str.ofString "/claim/cut.py") 554, Value.int 219 0, Value.int 2 0, Value.int 0 0, Value.int 0 0, Value.int 3 0, Value.ref 274, Value.bool true, Value.int 181 0, Value.ref 275, Value.none, Value.ref 276, Value.ref 277, Value.ref 278, Value.int 562 0, Value.int 219 0, Value.str (Str.ofString "/claim/cut.py") 563]) #[]) ::
(nat_lit 280, Obj.mk (Value.type "function") none (Data.func (FuncData.mk (Str.ofString "escape") (Str.ofString "Lexer.escape") pa280 (FuncBody.stmts bd280) sc280 3 [] Value.none Value.none Value.none (Value.str (Str.ofString "vectorcove.tokens") 305) none (Value.ref 279) Value.none 0)) #[]) ::
(nat_lit 281, Obj.mk (Value.type "tuple") none (Data.seq #[]) #[]) ::
(nat_lit 283, Obj.mk (Value.type "tuple") none (Data.seq #[Value.str (Str.ofString "self") 568, Value.str (Str.ofString "at") 569, Value.str (Str.ofString "begin") 570, Value.str (Str.ofString "base") 571, Value.str (Str.ofString "most") 572, Value.str (Str.ofString "value") 573, Value.str (Str.ofString "index") 574, Value.str (Str.ofString "digit") 575, Value.str (Str.ofString "surrogate") 576]) #[]) ::
(nat_lit 284, Obj.mk (Value.type "tuple") none (Data.seq #[]) #[]) ::
(nat_lit 286, Obj.mk (Value.type "code") none (Data.fields #[Value.str (Str.ofString "coded") 565, Value.str (Str.ofString "Lexer.coded") 566, Value.str (Str.ofString "/claim/cut.py") 567, Value.int 242 0, Value.int 5 0, Value.int 0 0, Value.int 0 0, Value.int 3 0, Value.ref 281, Value.bool true, Value.int 181 0, Value.ref 282, Value.none, Value.ref 283, Value.ref 284, Value.ref 285, Value.int 577 0, Value.int 242 0, Value.str (Str.ofString "/claim/cut.py") 578]) #[]) ::
(nat_lit 287, Obj.mk (Value.type "function") none (Data.func (FuncData.mk (Str.ofString "coded") (Str.ofString "Lexer.coded") pa287 (FuncBody.stmts bd287) sc287 3 [] Value.none Value.none Value.none (Value.str (Str.ofString "vectorcove.tokens") 305) none (Value.ref 286) Value.none 0)) #[]) ::
(nat_lit 288, Obj.mk (Value.type "tuple") none (Data.seq #[]) #[]) ::
(nat_lit 290, Obj.mk (Value.type "tuple") none (Data.seq #[Value.str (Str.ofString "self") 583, Value.str (Str.ofString "at") 584, Value.str (Str.ofString "quote") 585, Value.str (Str.ofString "index") 586, Value.str (Str.ofString "dashes") 587, Value.str (Str.ofString "opened") 588, Value.str (Str.ofString "closing") 589, Value.str (Str.ofString "end") 590]) #[]) ::
(nat_lit 291, Obj.mk (Value.type "tuple") none (Data.seq #[]) #[]) ::
(nat_lit 293, Obj.mk (Value.type "code") none (Data.fields #[Value.str (Str.ofString "raw_string") 580, Value.str (Str.ofString "Lexer.raw_string") 581, Value.str (Str.ofString "/claim/cut.py") 582, Value.int 256 0, Value.int 2 0, Value.int 0 0, Value.int 0 0, Value.int 3 0, Value.ref 288, Value.bool true, Value.int 181 0, Value.ref 289, Value.none, Value.ref 290, Value.ref 291, Value.ref 292, Value.int 591 0, Value.int 256 0, Value.str (Str.ofString "/claim/cut.py") 592]) #[]) ::
(nat_lit 294, Obj.mk (Value.type "function") none (Data.func (FuncData.mk (Str.ofString "raw_string") (Str.ofString "Lexer.raw_string") pa294 (FuncBody.stmts bd294) sc294 3 [] Value.none Value.none Value.none (Value.str (Str.ofString "vectorcove.tokens") 305) none (Value.ref 293) Value.none 0)) #[]) ::
(nat_lit 295, Obj.mk (Value.type "tuple") none (Data.seq #[Value.str (Str.ofString "at") 594, Value.str (Str.ofString "keys") 595, Value.str (Str.ofString "newline") 596, Value.str (Str.ofString "text") 597]) #[]) ::
(nat_lit 296, Obj.mk (Value.type "dict") none (Data.dict #[DictEntry.mk (PyData.keyHash P (Str.ofString "__module__")) (Value.str (Str.ofString "__module__") 404) (Value.str (Str.ofString "vectorcove.tokens") 305), DictEntry.mk (PyData.keyHash P (Str.ofString "__firstlineno__")) (Value.str (Str.ofString "__firstlineno__") 408) (Value.int 66 407), DictEntry.mk (PyData.keyHash P (Str.ofString "__init__")) (Value.str (Str.ofString "__init__") 418) (Value.ref 182), DictEntry.mk (PyData.keyHash P (Str.ofString "char")) (Value.str (Str.ofString "char") 426) (Value.ref 189), DictEntry.mk (PyData.keyHash P (Str.ofString "token")) (Value.str (Str.ofString "token") 437) (Value.ref 196), DictEntry.mk (PyData.keyHash P (Str.ofString "next_token")) (Value.str (Str.ofString "next_token") 448) (Value.ref 203), DictEntry.mk (PyData.keyHash P (Str.ofString "skip")) (Value.str (Str.ofString "skip") 456) (Value.ref 210), DictEntry.mk (PyData.keyHash P (Str.ofString "word")) (Value.str (Str.ofString "word") 466) (Value.ref 217), DictEntry.mk (PyData.keyHash P (Str.ofString "percent")) (Value.str (Str.ofString "percent") 475) (Value.ref 224), DictEntry.mk (PyData.keyHash P (Str.ofString "operator")) (Value.str (Str.ofString "operator") 484) (Value.ref 231), DictEntry.mk (PyData.keyHash P (Str.ofString "digits_end")) (Value.str (Str.ofString "digits_end") 492) (Value.ref 238), DictEntry.mk (PyData.keyHash P (Str.ofString "numeral")) (Value.str (Str.ofString "numeral") 506) (Value.ref 245), DictEntry.mk (PyData.keyHash P (Str.ofString "exponent")) (Value.str (Str.ofString "exponent") 518) (Value.ref 252), DictEntry.mk (PyData.keyHash P (Str.ofString "hexadecimal")) (Value.str (Str.ofString "hexadecimal") 528) (Value.ref 259), DictEntry.mk (PyData.keyHash P (Str.ofString "number_token")) (Value.str (Str.ofString "number_token") 539) (Value.ref 266), DictEntry.mk (PyData.keyHash P (Str.ofString "quoted")) (Value.str (Str.ofString "quoted") 551) (Value.ref 273), DictEntry.mk (PyData.keyHash P (Str.ofString "escape")) (Value.str (Str.ofString "escape") 564) (Value.ref 280), DictEntry.mk (PyData.keyHash P (Str.ofString "coded")) (Value.str (Str.ofString "coded") 579) (Value.ref 287), DictEntry.mk (PyData.keyHash P (Str.ofString "raw_string")) (Value.str (Str.ofString "raw_string") 593) (Value.ref 294), DictEntry.mk (PyData.keyHash P (Str.ofString "__static_attributes__")) (Value.str (Str.ofString "__static_attributes__") 598) (Value.ref 295), DictEntry.mk (PyData.keyHash P (Str.ofString "__dict__")) (Value.str (Str.ofString "__dict__") 600) (Value.ref 298), DictEntry.mk (PyData.keyHash P (Str.ofString "__weakref__")) (Value.str (Str.ofString "__weakref__") 602) (Value.ref 299), DictEntry.mk (PyData.keyHash P (Str.ofString "__doc__")) (Value.str (Str.ofString "__doc__") 603) Value.none] 4) #[]) ::
(nat_lit 297, Obj.mk (Value.type "type") none (Data.cls (ClassData.mk (Str.ofString "Lexer") [Value.type "object"] [Value.ref 297, Value.type "object"] 296 (Str.ofString "Lexer") true [] [] false none false)) #[none, none, some (Value.str (Str.ofString "Lexer") 397), some (Value.str (Str.ofString "Lexer") 405), some (Value.builtin "object.__new__"), some (Value.bool true)]) ::
(nat_lit 298, Obj.mk (Value.type "getset_descriptor") none (Data.fields #[Value.str (Str.ofString "__dict__") 599, Value.ref 297, Value.builtin "function.__dict__", Value.builtin "function.__dict__#set"]) #[]) ::
(nat_lit 299, Obj.mk (Value.type "getset_descriptor") none (Data.fields #[Value.str (Str.ofString "__weakref__") 601, Value.ref 297, Value.builtin "ExceptionGroup.__weakref__", Value.none]) #[]) ::
(nat_lit 302, Obj.mk (Value.type "tuple") none (Data.seq #[]) #[]) ::
(nat_lit 304, Obj.mk (Value.type "tuple") none (Data.seq #[Value.str (Str.ofString "script") 611, Value.str (Str.ofString "figures") 612, Value.str (Str.ofString "mix") 613, Value.str (Str.ofString "cell") 614, Value.str (Str.ofString "big") 615, Value.str (Str.ofString "rest") 616, Value.str (Str.ofString "step") 617]) #[]) ::
(nat_lit 305, Obj.mk (Value.type "tuple") none (Data.seq #[]) #[]) ::
(nat_lit 307, Obj.mk (Value.type "code") none (Data.fields #[Value.str (Str.ofString "_law_pool") 608, Value.str (Str.ofString "_law_pool") 609, Value.str (Str.ofString "/claim/cut.py") 610, Value.int 271 0, Value.int 1 0, Value.int 0 0, Value.int 0 0, Value.int 3 0, Value.ref 302, Value.bool true, Value.int 181 0, Value.ref 303, Value.none, Value.ref 304, Value.ref 305, Value.ref 306, Value.int 618 0, Value.int 271 0, Value.str (Str.ofString "/claim/cut.py") 619]) #[]) ::
(nat_lit 308, Obj.mk (Value.type "function") none (Data.func (FuncData.mk (Str.ofString "_law_pool") (Str.ofString "_law_pool") pa308 (FuncBody.stmts bd308) sc308 3 [] Value.none Value.none Value.none (Value.str (Str.ofString "law_no0507_01") 606) none (Value.ref 307) Value.none 0)) #[]) ::
(nat_lit 309, Obj.mk (Value.type "tuple") none (Data.seq #[]) #[]) ::
(nat_lit 311, Obj.mk (Value.type "tuple") none (Data.seq #[Value.str (Str.ofString "pool") 624, Value.str (Str.ofString "bound") 625, Value.str (Str.ofString "figure") 626]) #[]) ::
(nat_lit 312, Obj.mk (Value.type "tuple") none (Data.seq #[]) #[]) ::
(nat_lit 314, Obj.mk (Value.type "code") none (Data.fields #[Value.str (Str.ofString "_law_pick") 621, Value.str (Str.ofString "_law_pick") 622, Value.str (Str.ofString "/claim/cut.py") 623, Value.int 286 0, Value.int 2 0, Value.int 0 0, Value.int 0 0, Value.int 3 0, Value.ref 309, Value.bool true, Value.int 181 0, Value.ref 310, Value.none, Value.ref 311, Value.ref 312, Value.ref 313, Value.int 627 0, Value.int 286 0, Value.str (Str.ofString "/claim/cut.py") 628]) #[]) ::
(nat_lit 315, Obj.mk (Value.type "function") none (Data.func (FuncData.mk (Str.ofString "_law_pick") (Str.ofString "_law_pick") pa315 (FuncBody.stmts bd315) sc315 3 [] Value.none Value.none Value.none (Value.str (Str.ofString "law_no0507_01") 606) none (Value.ref 314) Value.none 0)) #[]) ::
(nat_lit 316, Obj.mk (Value.type "tuple") none (Data.seq #[]) #[]) ::
(nat_lit 318, Obj.mk (Value.type "tuple") none (Data.seq #[Value.str (Str.ofString "pool") 633, Value.str (Str.ofString "rows") 634, Value.str (Str.ofString "row") 635, Value.str (Str.ofString "kind") 636, Value.str (Str.ofString "n") 637, Value.str (Str.ofString "d") 638]) #[]) ::
(nat_lit 319, Obj.mk (Value.type "tuple") none (Data.seq #[]) #[]) ::
(nat_lit 321, Obj.mk (Value.type "code") none (Data.fields #[Value.str (Str.ofString "_law_numeral") 630, Value.str (Str.ofString "_law_numeral") 631, Value.str (Str.ofString "/claim/cut.py") 632, Value.int 296 0, Value.int 1 0, Value.int 0 0, Value.int 0 0, Value.int 3 0, Value.ref 316, Value.bool true, Value.int 181 0, Value.ref 317, Value.none, Value.ref 318, Value.ref 319, Value.ref 320, Value.int 639 0, Value.int 296 0, Value.str (Str.ofString "/claim/cut.py") 640]) #[]) ::
(nat_lit 322, Obj.mk (Value.type "function") none (Data.func (FuncData.mk (Str.ofString "_law_numeral") (Str.ofString "_law_numeral") pa322 (FuncBody.stmts bd322) sc322 3 [] Value.none Value.none Value.none (Value.str (Str.ofString "law_no0507_01") 606) none (Value.ref 321) Value.none 0)) #[]) ::
(nat_lit 323, Obj.mk (Value.type "tuple") none (Data.seq #[]) #[]) ::
(nat_lit 325, Obj.mk (Value.type "tuple") none (Data.seq #[Value.str (Str.ofString "pool") 645, Value.str (Str.ofString "quote") 646, Value.str (Str.ofString "way") 647, Value.str (Str.ofString "char") 648, Value.str (Str.ofString "figure") 649, Value.str (Str.ofString "low") 650, Value.str (Str.ofString "row") 651]) #[]) ::
(nat_lit 326, Obj.mk (Value.type "tuple") none (Data.seq #[]) #[]) ::
(nat_lit 328, Obj.mk (Value.type "code") none (Data.fields #[Value.str (Str.ofString "_law_piece") 642, Value.str (Str.ofString "_law_piece") 643, Value.str (Str.ofString "/claim/cut.py") 644, Value.int 302 0, Value.int 2 0, Value.int 0 0, Value.int 0 0, Value.int 3 0, Value.ref 323, Value.bool true, Value.int 181 0, Value.ref 324, Value.none, Value.ref 325, Value.ref 326, Value.ref 327, Value.int 652 0, Value.int 302 0, Value.str (Str.ofString "/claim/cut.py") 653]) #[]) ::
(nat_lit 329, Obj.mk (Value.type "function") none (Data.func (FuncData.mk (Str.ofString "_law_piece") (Str.ofString "_law_piece") pa329 (FuncBody.stmts bd329) sc329 3 [] Value.none Value.none Value.none (Value.str (Str.ofString "law_no0507_01") 606) none (Value.ref 328) Value.none 0)) #[]) ::
(nat_lit 330, Obj.mk (Value.type "tuple") none (Data.seq #[]) #[]) ::
(nat_lit 332, Obj.mk (Value.type "tuple") none (Data.seq #[Value.str (Str.ofString "pool") 658, Value.str (Str.ofString "quote") 659, Value.str (Str.ofString "row") 660, Value.str (Str.ofString "value") 661, Value.str (Str.ofString "step") 662, Value.str (Str.ofString "more") 663, Value.str (Str.ofString "char") 664]) #[]) ::
(nat_lit 333, Obj.mk (Value.type "tuple") none (Data.seq #[]) #[]) ::
(nat_lit 335, Obj.mk (Value.type "code") none (Data.fields #[Value.str (Str.ofString "_law_quoted") 655, Value.str (Str.ofString "_law_quoted") 656, Value.str (Str.ofString "/claim/cut.py") 657, Value.int 317 0, Value.int 2 0, Value.int 0 0, Value.int 0 0, Value.int 3 0, Value.ref 330, Value.bool true, Value.int 181 0, Value.ref 331, Value.none, Value.ref 332, Value.ref 333, Value.ref 334, Value.int 665 0, Value.int 317 0, Value.str (Str.ofString "/claim/cut.py") 666]) #[]) ::
(nat_lit 336, Obj.mk (Value.type "function") none (Data.func (FuncData.mk (Str.ofString "_law_quoted") (Str.ofString "_law_quoted") pa336 (FuncBody.stmts bd336) sc336 3 [] Value.none Value.none Value.none (Value.str (Str.ofString "law_no0507_01") 606) none (Value.ref 335) Value.none 0)) #[]) ::
(nat_lit 337, Obj.mk (Value.type "tuple") none (Data.seq #[]) #[]) ::
(nat_lit 339, Obj.mk (Value.type "tuple") none (Data.seq #[Value.str (Str.ofString "pool") 671, Value.str (Str.ofString "kind") 672, Value.str (Str.ofString "name") 673, Value.str (Str.ofString "row") 674, Value.str (Str.ofString "value") 675, Value.str (Str.ofString "begun") 676, Value.str (Str.ofString "closed") 677, Value.str (Str.ofString "dashes") 678, Value.str (Str.ofString "quote") 679, Value.str (Str.ofString "texts") 680]) #[]) ::
(nat_lit 340, Obj.mk (Value.type "tuple") none (Data.seq #[]) #[]) ::
(nat_lit 342, Obj.mk (Value.type "code") none (Data.fields #[Value.str (Str.ofString "_law_token") 668, Value.str (Str.ofString "_law_token") 669, Value.str (Str.ofString "/claim/cut.py") 670, Value.int 325 0, Value.int 1 0, Value.int 0 0, Value.int 0 0, Value.int 3 0, Value.ref 337, Value.bool true, Value.int 181 0, Value.ref 338, Value.none, Value.ref 339, Value.ref 340, Value.ref 341, Value.int 681 0, Value.int 325 0, Value.str (Str.ofString "/claim/cut.py") 682]) #[]) ::
(nat_lit 343, Obj.mk (Value.type "function") none (Data.func (FuncData.mk (Str.ofString "_law_token") (Str.ofString "_law_token") pa343 (FuncBody.stmts bd343) sc343 3 [] Value.none Value.none Value.none (Value.str (Str.ofString "law_no0507_01") 606) none (Value.ref 342) Value.none 0)) #[]) ::
(nat_lit 344, Obj.mk (Value.type "tuple") none (Data.seq #[]) #[]) ::
(nat_lit 346, Obj.mk (Value.type "tuple") none (Data.seq #[Value.str (Str.ofString "pool") 687, Value.str (Str.ofString "must") 688, Value.str (Str.ofString "row") 689, Value.str (Str.ofString "count") 690, Value.str (Str.ofString "step") 691]) #[]) ::
(nat_lit 347, Obj.mk (Value.type "tuple") none (Data.seq #[]) #[]) ::
(nat_lit 349, Obj.mk (Value.type "code") none (Data.fields #[Value.str (Str.ofString "_law_gap") 684, Value.str (Str.ofString "_law_gap") 685, Value.str (Str.ofString "/claim/cut.py") 686, Value.int 352 0, Value.int 2 0, Value.int 0 0, Value.int 0 0, Value.int 3 0, Value.ref 344, Value.bool true, Value.int 181 0, Value.ref 345, Value.none, Value.ref 346, Value.ref 347, Value.ref 348, Value.int 692 0, Value.int 352 0, Value.str (Str.ofString "/claim/cut.py") 693]) #[]) ::
(nat_lit 350, Obj.mk (Value.type "function") none (Data.func (FuncData.mk (Str.ofString "_law_gap") (Str.ofString "_law_gap") pa350 (FuncBody.stmts bd350) sc350 3 [] Value.none Value.none Value.none (Value.str (Str.ofString "law_no0507_01") 606) none (Value.ref 349) Value.none 0)) #[]) ::
(nat_lit 351, Obj.mk (Value.type "tuple") none (Data.seq #[]) #[]) ::
(nat_lit 353, Obj.mk (Value.type "tuple") none (Data.seq #[]) #[]) ::
(nat_lit 354, Obj.mk (Value.type "tuple") none (Data.seq #[]) #[]) ::
(nat_lit 356, Obj.mk (Value.type "code") none (Data.fields #[Value.str (Str.ofString "_law_faults") 695, Value.str (Str.ofString "_law_faults") 696, Value.str (Str.ofString "/claim/cut.py") 697, Value.int 360 0, Value.int 0 0, Value.int 0 0, Value.int 0 0, Value.int 3 0, Value.ref 351, Value.bool true, Value.int 181 0, Value.ref 352, Value.none, Value.ref 353, Value.ref 354, Value.ref 355, Value.int 698 0, Value.int 360 0, Value.str (Str.ofString "/claim/cut.py") 699]) #[]) ::
(nat_lit 357, Obj.mk (Value.type "function") none (Data.func (FuncData.mk (Str.ofString "_law_faults") (Str.ofString "_law_faults") pa357 (FuncBody.stmts bd357) sc357 3 [] Value.none Value.none Value.none (Value.str (Str.ofString "law_no0507_01") 606) none (Value.ref 356) Value.none 0)) #[]) ::
(nat_lit 358, Obj.mk (Value.type "tuple") none (Data.seq #[]) #[]) ::
(nat_lit 360, Obj.mk (Value.type "tuple") none (Data.seq #[Value.str (Str.ofString "token") 704, Value.str (Str.ofString "value") 705]) #[]) ::
(nat_lit 361, Obj.mk (Value.type "tuple") none (Data.seq #[]) #[]) ::
(nat_lit 363, Obj.mk (Value.type "code") none (Data.fields #[Value.str (Str.ofString "_law_told") 701, Value.str (Str.ofString "_law_told") 702, Value.str (Str.ofString "/claim/cut.py") 703, Value.int 362 0, Value.int 1 0, Value.int 0 0, Value.int 0 0, Value.int 3 0, Value.ref 358, Value.bool true, Value.int 181 0, Value.ref 359, Value.none, Value.ref 360, Value.ref 361, Value.ref 362, Value.int 706 0, Value.int 362 0, Value.str (Str.ofString "/claim/cut.py") 707]) #[]) ::
(nat_lit 364, Obj.mk (Value.type "function") none (Data.func (FuncData.mk (Str.ofString "_law_told") (Str.ofString "_law_told") pa364 (FuncBody.stmts bd364) sc364 3 [] Value.none Value.none Value.none (Value.str (Str.ofString "law_no0507_01") 606) none (Value.ref 363) Value.none 0)) #[]) ::
(nat_lit 365, Obj.mk (Value.type "tuple") none (Data.seq #[]) #[]) ::
(nat_lit 367, Obj.mk (Value.type "tuple") none (Data.seq #[Value.str (Str.ofString "script") 712, Value.str (Str.ofString "pool") 713, Value.str (Str.ofString "wide") 714, Value.str (Str.ofString "due") 715, Value.str (Str.ofString "last") 716, Value.str (Str.ofString "step") 717, Value.str (Str.ofString "row") 718, Value.str (Str.ofString "kind") 719, Value.str (Str.ofString "value") 720, Value.str (Str.ofString "wordy") 721, Value.str (Str.ofString "must") 722, Value.str (Str.ofString "gap") 723, Value.str (Str.ofString "fault") 724, Value.str (Str.ofString "inside") 725, Value.str (Str.ofString "spot") 726, Value.str (Str.ofString "lexer") 727, Value.str (Str.ofString "wanted") 728, Value.str (Str.ofString "token") 729, Value.str (Str.ofString "error") 730]) #[]) ::
(nat_lit 368, Obj.mk (Value.type "tuple") none (Data.seq #[]) #[]) ::
(nat_lit 370, Obj.mk (Value.type "code") none (Data.fields #[Value.str (Str.ofString "law") 709, Value.str (Str.ofString "law") 710, Value.str (Str.ofString "/claim/cut.py") 711, Value.int 367 0, Value.int 1 0, Value.int 0 0, Value.int 0 0, Value.int 3 0, Value.ref 365, Value.bool true, Value.int 181 0, Value.ref 366, Value.none, Value.ref 367, Value.ref 368, Value.ref 369, Value.int 731 0, Value.int 367 0, Value.str (Str.ofString "/claim/cut.py") 732]) #[]) ::
(nat_lit 371, Obj.mk (Value.type "function") none (Data.func (FuncData.mk (Str.ofString "law") (Str.ofString "law") pa371 (FuncBody.stmts bd371) sc371 3 [] Value.none Value.none Value.none (Value.str (Str.ofString "law_no0507_01") 606) none (Value.ref 370) Value.none 0)) #[]) :: []
noncomputable def hd.view_39 : Program := view PySem.Challenge.pw_no0507_01 [0, 2, 3, 5, 6, 9, 10, 11, 12, 13, 14, 15, 16, 17, 18, 19, 21, 22, 23, 24, 25, 26, 27, 28, 29, 30]
noncomputable def AS : List Addr := [2,3,15,17,18,20,21,22,29,30,31,32,35,42,44,45,47,48,49,50,51,61,62,64,65,67,68,69,71,72,74,75,76,77,78,79,80,83,85,86,88,89,90,91,93,94,96,97,105,107,108,110,111,112,113,114,115,116,119,121,122,124,125,126,128,129,131,132,133,135,136,138,139,140,142,143,145,146,147,149,150,152,153,154,156,157,159,160,161,163,164,166,167,175,176,178,179,181,182,183,185,186,188,189,190,192,193,195,196,197,199,200,202,203,204,206,207,209,210,211,213,214,216,217,218,220,221,223,224,225,227,228,230,231,232,234,235,237,238,239,241,242,244,245,246,248,249,251,252,253,255,256,258,259,260,262,263,265,266,267,269,270,272,273,274,276,277,279,280,281,283,284,286,287,288,290,291,293,294,295,296,297,298,299,302,304,305,307,308,309,311,312,314,315,316,318,319,321,322,323,325,326,328,329,330,332,333,335,336,337,339,340,342,343,344,346,347,349,350,351,353,354,356,357,358,360,361,363,364,365,367,368,370,371]
theorem as_ok : ∀ P, AS = (hd.heap_39 P).map (·.1) := fun _ => by kernel_rfl
noncomputable abbrev o0 (P : Params) : Obj := (Obj.mk (Value.type "dict") none (Data.dict #[(DictEntry.mk (PyData.keyHash P (Str.ofString "__name__")) (Value.str (Str.ofString "__name__") 1) (Value.str (Str.ofString "builtins") 160)), (DictEntry.mk (PyData.keyHash P (Str.ofString "__doc__")) (Value.str (Str.ofString "__doc__") 2) (Value.builtin "builtins.__doc__:str#opaque")), (DictEntry.mk (PyData.keyHash P (Str.ofString "__package__")) (Value.str (Str.ofString "__package__") 3) (Value.builtin "builtins.__package__:str#opaque")), (DictEntry.mk (PyData.keyHash P (Str.ofString "__loader__")) (Value.str (Str.ofString "__loader__") 4) (Value.builtin "builtins.__loader__:shared#opaque")), (DictEntry.mk (PyData.keyHash P (Str.ofString "__spec__")) (Value.str (Str.ofString "__spec__") 5) (Value.builtin "builtins.__spec__#opaque")), (DictEntry.mk (PyData.keyHash P (Str.ofString "__build_class__")) (Value.str (Str.ofString "__build_class__") 6) (Value.builtin "__build_class__")), (DictEntry.mk (PyData.keyHash P (Str.ofString "__import__")) (Value.str (Str.ofString "__import__") 7) (Value.builtin "__import__")), (DictEntry.mk (PyData.keyHash P (Str.ofString "abs")) (Value.str (Str.ofString "abs") 8) (Value.builtin "abs")), (DictEntry.mk (PyData.keyHash P (Str.ofString "all")) (Value.str (Str.ofString "all") 9) (Value.builtin "all")), (DictEntry.mk (PyData.keyHash P (Str.ofString "any")) (Value.str (Str.ofString "any") 10) (Value.builtin "any")), (DictEntry.mk (PyData.keyHash P (Str.ofString "ascii")) (Value.str (Str.ofString "ascii") 11) (Value.builtin "ascii")), (DictEntry.mk (PyData.keyHash P (Str.ofString "bin")) (Value.str (Str.ofString "bin") 12) (Value.builtin "bin")), (DictEntry.mk (PyData.keyHash P (Str.ofString "breakpoint")) (Value.str (Str.ofString "breakpoint") 13) (Value.builtin "breakpoint")), (DictEntry.mk (PyData.keyHash P (Str.ofString "callable")) (Value.str (Str.ofString "callable") 14) (Value.builtin "callable")), (DictEntry.mk (PyData.keyHash P (Str.ofString "chr")) (Value.str (Str.ofString "chr") 15) (Value.builtin "chr")), (DictEntry.mk (PyData.keyHash P (Str.ofString "compile")) (Value.str (Str.ofString "compile") 16) (Value.builtin "compile")), (DictEntry.mk (PyData.keyHash P (Str.ofString "delattr")) (Value.str (Str.ofString "delattr") 17) (Value.builtin "delattr")), (DictEntry.mk (PyData.keyHash P (Str.ofString "dir")) (Value.str (Str.ofString "dir") 18) (Value.builtin "dir")), (DictEntry.mk (PyData.keyHash P (Str.ofString "divmod")) (Value.str (Str.ofString "divmod") 19) (Value.builtin "divmod")), (DictEntry.mk (PyData.keyHash P (Str.ofString "eval")) (Value.str (Str.ofString "eval") 20) (Value.builtin "eval")), (DictEntry.mk (PyData.keyHash P (Str.ofString "exec")) (Value.str (Str.ofString "exec") 21) (Value.builtin "exec")), (DictEntry.mk (PyData.keyHash P (Str.ofString "format")) (Value.str (Str.ofString "format") 22) (Value.builtin "format")), (DictEntry.mk (PyData.keyHash P (Str.ofString "getattr")) (Value.str (Str.ofString "getattr") 23) (Value.builtin "getattr")), (DictEntry.mk (PyData.keyHash P (Str.ofString "globals")) (Value.str (Str.ofString "globals") 24) (Value.builtin "globals")), (DictEntry.mk (PyData.keyHash P (Str.ofString "hasattr")) (Value.str (Str.ofString "hasattr") 25) (Value.builtin "hasattr")), (DictEntry.mk (PyData.keyHash P (Str.ofString "hash")) (Value.str (Str.ofString "hash") 26) (Value.builtin "hash")), (DictEntry.mk (PyData.keyHash P (Str.ofString "hex")) (Value.str (Str.ofString "hex") 27) (Value.builtin "hex")), (DictEntry.mk (PyData.keyHash P (Str.ofString "id")) (Value.str (Str.ofString "id") 28) (Value.builtin "id")), (DictEntry.mk (PyData.keyHash P (Str.ofString "input")) (Value.str (Str.ofString "input") 29) (Value.builtin "input")), (DictEntry.mk (PyData.keyHash P (Str.ofString "isinstance")) (Value.str (Str.ofString "isinstance") 30) (Value.builtin "isinstance")), (DictEntry.mk (PyData.keyHash P (Str.ofString "issubclass")) (Value.str (Str.ofString "issubclass") 31) (Value.builtin "issubclass")), (DictEntry.mk (PyData.keyHash P (Str.ofString "iter")) (Value.str (Str.ofString "iter") 32) (Value.builtin "iter")), (DictEntry.mk (PyData.keyHash P (Str.ofString "aiter")) (Value.str (Str.ofString "aiter") 33) (Value.builtin "aiter")), (DictEntry.mk (PyData.keyHash P (Str.ofString "len")) (Value.str (Str.ofString "len") 34) (Value.builtin "len")), (DictEntry.mk (PyData.keyHash P (Str.ofString "locals")) (Value.str (Str.ofString "locals") 35) (Value.builtin "locals")), (DictEntry.mk (PyData.keyHash P (Str.ofString "max")) (Value.str (Str.ofString "max") 36) (Value.builtin "max")), (DictEntry.mk (PyData.keyHash P (Str.ofString "min")) (Value.str (Str.ofString "min") 37) (Value.builtin "min")), (DictEntry.mk (PyData.keyHash P (Str.ofString "next")) (Value.str (Str.ofString "next") 38) (Value.builtin "next")), (DictEntry.mk (PyData.keyHash P (Str.ofString "anext")) (Value.str (Str.ofString "anext") 39) (Value.builtin "anext")), (DictEntry.mk (PyData.keyHash P (Str.ofString "oct")) (Value.str (Str.ofString "oct") 40) (Value.builtin "oct")), (DictEntry.mk (PyData.keyHash P (Str.ofString "ord")) (Value.str (Str.ofString "ord") 41) (Value.builtin "ord")), (DictEntry.mk (PyData.keyHash P (Str.ofString "pow")) (Value.str (Str.ofString "pow") 42) (Value.builtin "pow")), (DictEntry.mk (PyData.keyHash P (Str.ofString "print")) (Value.str (Str.ofString "print") 43) (Value.builtin "print")), (DictEntry.mk (PyData.keyHash P (Str.ofString "repr")) (Value.str (Str.ofString "repr") 44) (Value.builtin "repr")), (DictEntry.mk (PyData.keyHash P (Str.ofString "round")) (Value.str (Str.ofString "round") 45) (Value.builtin "round")), (DictEntry.mk (PyData.keyHash P (Str.ofString "setattr")) (Value.str (Str.ofString "setattr") 46) (Value.builtin "setattr")), (DictEntry.mk (PyData.keyHash P (Str.ofString "sorted")) (Value.str (Str.ofString "sorted") 47) (Value.builtin "sorted")), (DictEntry.mk (PyData.keyHash P (Str.ofString "sum")) (Value.str (Str.ofString "sum") 48) (Value.builtin "sum")), (DictEntry.mk (PyData.keyHash P (Str.ofString "vars")) (Value.str (Str.ofString "vars") 49) (Value.builtin "vars")), (DictEntry.mk (PyData.keyHash P (Str.ofString "None")) (Value.str (Str.ofString "None") 50) Value.none), (DictEntry.mk (PyData.keyHash P (Str.ofString "Ellipsis")) (Value.str (Str.ofString "Ellipsis") 51) Value.ellipsis), (DictEntry.mk (PyData.keyHash P (Str.ofString "NotImplemented")) (Value.str (Str.ofString "NotImplemented") 52) Value.notImplemented), (DictEntry.mk (PyData.keyHash P (Str.ofString "False")) (Value.str (Str.ofString "False") 53) (Value.bool false)), (DictEntry.mk (PyData.keyHash P (Str.ofString "True")) (Value.str (Str.ofString "True") 54) (Value.bool true)), (DictEntry.mk (PyData.keyHash P (Str.ofString "bool")) (Value.str (Str.ofString "bool") 55) (Value.type "bool")), (DictEntry.mk (PyData.keyHash P (Str.ofString "memoryview")) (Value.str (Str.ofString "memoryview") 56) (Value.type "memoryview")), (DictEntry.mk (PyData.keyHash P (Str.ofString "bytearray")) (Value.str (Str.ofString "bytearray") 57) (Value.type "bytearray")), (DictEntry.mk (PyData.keyHash P (Str.ofString "bytes")) (Value.str (Str.ofString "bytes") 58) (Value.type "bytes")), (DictEntry.mk (PyData.keyHash P (Str.ofString "classmethod")) (Value.str (Str.ofString "classmethod") 59) (Value.type "classmethod")), (DictEntry.mk (PyData.keyHash P (Str.ofString "complex")) (Value.str (Str.ofString "complex") 60) (Value.type "complex")), (DictEntry.mk (PyData.keyHash P (Str.ofString "dict")) (Value.str (Str.ofString "dict") 61) (Value.type "dict")), (DictEntry.mk (PyData.keyHash P (Str.ofString "enumerate")) (Value.str (Str.ofString "enumerate") 62) (Value.type "enumerate")), (DictEntry.mk (PyData.keyHash P (Str.ofString "filter")) (Value.str (Str.ofString "filter") 63) (Value.type "filter")), (DictEntry.mk (PyData.keyHash P (Str.ofString "float")) (Value.str (Str.ofString "float") 64) (Value.type "float")), (DictEntry.mk (PyData.keyHash P (Str.ofString "frozenset")) (Value.str (Str.ofString "frozenset") 65) (Value.type "frozenset")), (DictEntry.mk (PyData.keyHash P (Str.ofString "property")) (Value.str (Str.ofString "property") 66) (Value.type "property")), (DictEntry.mk (PyData.keyHash P (Str.ofString "int")) (Value.str (Str.ofString "int") 67) (Value.type "int")), (DictEntry.mk (PyData.keyHash P (Str.ofString "list")) (Value.str (Str.ofString "list") 68) (Value.type "list")), (DictEntry.mk (PyData.keyHash P (Str.ofString "map")) (Value.str (Str.ofString "map") 69) (Value.type "map")), (DictEntry.mk (PyData.keyHash P (Str.ofString "object")) (Value.str (Str.ofString "object") 70) (Value.type "object")), (DictEntry.mk (PyData.keyHash P (Str.ofString "range")) (Value.str (Str.ofString "range") 71) (Value.type "range")), (DictEntry.mk (PyData.keyHash P (Str.ofString "reversed")) (Value.str (Str.ofString "reversed") 72) (Value.type "reversed")), (DictEntry.mk (PyData.keyHash P (Str.ofString "set")) (Value.str (Str.ofString "set") 73) (Value.type "set")), (DictEntry.mk (PyData.keyHash P (Str.ofString "slice")) (Value.str (Str.ofString "slice") 74) (Value.type "slice")), (DictEntry.mk (PyData.keyHash P (Str.ofString "staticmethod")) (Value.str (Str.ofString "staticmethod") 75) (Value.type "staticmethod")), (DictEntry.mk (PyData.keyHash P (Str.ofString "str")) (Value.str (Str.ofString "str") 76) (Value.type "str")), (DictEntry.mk (PyData.keyHash P (Str.ofString "super")) (Value.str (Str.ofString "super") 77) (Value.type "super")), (DictEntry.mk (PyData.keyHash P (Str.ofString "tuple")) (Value.str (Str.ofString "tuple") 78) (Value.type "tuple")), (DictEntry.mk (PyData.keyHash P (Str.ofString "type")) (Value.str (Str.ofString "type") 79) (Value.type "type")), (DictEntry.mk (PyData.keyHash P (Str.ofString "zip")) (Value.str (Str.ofString "zip") 80) (Value.type "zip")), (DictEntry.mk (PyData.keyHash P (Str.ofString "__debug__")) (Value.str (Str.ofString "__debug__") 81) (Value.bool true)), (DictEntry.mk (PyData.keyHash P (Str.ofString "BaseException")) (Value.str (Str.ofString "BaseException") 82) (Value.type "BaseException")), (DictEntry.mk (PyData.keyHash P (Str.ofString "BaseExceptionGroup")) (Value.str (Str.ofString "BaseExceptionGroup") 83) (Value.type "BaseExceptionGroup")), (DictEntry.mk (PyData.keyHash P (Str.ofString "Exception")) (Value.str (Str.ofString "Exception") 84) (Value.type "Exception")), (DictEntry.mk (PyData.keyHash P (Str.ofString "GeneratorExit")) (Value.str (Str.ofString "GeneratorExit") 85) (Value.type "GeneratorExit")), (DictEntry.mk (PyData.keyHash P (Str.ofString "KeyboardInterrupt")) (Value.str (Str.ofString "KeyboardInterrupt") 86) (Value.type "KeyboardInterrupt")), (DictEntry.mk (PyData.keyHash P (Str.ofString "SystemExit")) (Value.str (Str.ofString "SystemExit") 87) (Value.type "SystemExit")), (DictEntry.mk (PyData.keyHash P (Str.ofString "ArithmeticError")) (Value.str (Str.ofString "ArithmeticError") 88) (Value.type "ArithmeticError")), (DictEntry.mk (PyData.keyHash P (Str.ofString "AssertionError")) (Value.str (Str.ofString "AssertionError") 89) (Value.type "AssertionError")), (DictEntry.mk (PyData.keyHash P (Str.ofString "AttributeError")) (Value.str (Str.ofString "AttributeError") 90) (Value.type "AttributeError")), (DictEntry.mk (PyData.keyHash P (Str.ofString "BufferError")) (Value.str (Str.ofString "BufferError") 91) (Value.type "BufferError")), (DictEntry.mk (PyData.keyHash P (Str.ofString "EOFError")) (Value.str (Str.ofString "EOFError") 92) (Value.type "EOFError")), (DictEntry.mk (PyData.keyHash P (Str.ofString "ImportError")) (Value.str (Str.ofString "ImportError") 93) (Value.type "ImportError")), (DictEntry.mk (PyData.keyHash P (Str.ofString "LookupError")) (Value.str (Str.ofString "LookupError") 94) (Value.type "LookupError")), (DictEntry.mk (PyData.keyHash P (Str.ofString "MemoryError")) (Value.str (Str.ofString "MemoryError") 95) (Value.type "MemoryError")), (DictEntry.mk (PyData.keyHash P (Str.ofString "NameError")) (Value.str (Str.ofString "NameError") 96) (Value.type "NameError")), (DictEntry.mk (PyData.keyHash P (Str.ofString "OSError")) (Value.str (Str.ofString "OSError") 97) (Value.type "OSError")), (DictEntry.mk (PyData.keyHash P (Str.ofString "ReferenceError")) (Value.str (Str.ofString "ReferenceError") 98) (Value.type "ReferenceError")), (DictEntry.mk (PyData.keyHash P (Str.ofString "RuntimeError")) (Value.str (Str.ofString "RuntimeError") 99) (Value.type "RuntimeError")), (DictEntry.mk (PyData.keyHash P (Str.ofString "StopAsyncIteration")) (Value.str (Str.ofString "StopAsyncIteration") 100) (Value.type "StopAsyncIteration")), (DictEntry.mk (PyData.keyHash P (Str.ofString "StopIteration")) (Value.str (Str.ofString "StopIteration") 101) (Value.type "StopIteration")), (DictEntry.mk (PyData.keyHash P (Str.ofString "SyntaxError")) (Value.str (Str.ofString "SyntaxError") 102) (Value.type "SyntaxError")), (DictEntry.mk (PyData.keyHash P (Str.ofString "SystemError")) (Value.str (Str.ofString "SystemError") 103) (Value.type "SystemError")), (DictEntry.mk (PyData.keyHash P (Str.ofString "TypeError")) (Value.str (Str.ofString "TypeError") 104) (Value.type "TypeError")), (DictEntry.mk (PyData.keyHash P (Str.ofString "ValueError")) (Value.str (Str.ofString "ValueError") 105) (Value.type "ValueError")), (DictEntry.mk (PyData.keyHash P (Str.ofString "Warning")) (Value.str (Str.ofString "Warning") 106) (Value.type "Warning")), (DictEntry.mk (PyData.keyHash P (Str.ofString "FloatingPointError")) (Value.str (Str.ofString "FloatingPointError") 107) (Value.type "FloatingPointError")), (DictEntry.mk (PyData.keyHash P (Str.ofString "OverflowError")) (Value.str (Str.ofString "OverflowError") 108) (Value.type "OverflowError")), (DictEntry.mk (PyData.keyHash P (Str.ofString "ZeroDivisionError")) (Value.str (Str.ofString "ZeroDivisionError") 109) (Value.type "ZeroDivisionError")), (DictEntry.mk (PyData.keyHash P (Str.ofString "BytesWarning")) (Value.str (Str.ofString "BytesWarning") 110) (Value.type "BytesWarning")), (DictEntry.mk (PyData.keyHash P (Str.ofString "DeprecationWarning")) (Value.str (Str.ofString "DeprecationWarning") 111) (Value.type "DeprecationWarning")), (DictEntry.mk (PyData.keyHash P (Str.ofString "EncodingWarning")) (Value.str (Str.ofString "EncodingWarning") 112) (Value.type "EncodingWarning")), (DictEntry.mk (PyData.keyHash P (Str.ofString "FutureWarning")) (Value.str (Str.ofString "FutureWarning") 113) (Value.type "FutureWarning")), (DictEntry.mk (PyData.keyHash P (Str.ofString "ImportWarning")) (Value.str (Str.ofString "ImportWarning") 114) (Value.type "ImportWarning")), (DictEntry.mk (PyData.keyHash P (Str.ofString "PendingDeprecationWarning")) (Value.str (Str.ofString "PendingDeprecationWarning") 115) (Value.type "PendingDeprecationWarning")), (DictEntry.mk (PyData.keyHash P (Str.ofString "ResourceWarning")) (Value.str (Str.ofString "ResourceWarning") 116) (Value.type "ResourceWarning")), (DictEntry.mk (PyData.keyHash P (Str.ofString "RuntimeWarning")) (Value.str (Str.ofString "RuntimeWarning") 117) (Value.type "RuntimeWarning")), (DictEntry.mk (PyData.keyHash P (Str.ofString "SyntaxWarning")) (Value.str (Str.ofString "SyntaxWarning") 118) (Value.type "SyntaxWarning")), (DictEntry.mk (PyData.keyHash P (Str.ofString "UnicodeWarning")) (Value.str (Str.ofString "UnicodeWarning") 119) (Value.type "UnicodeWarning")), (DictEntry.mk (PyData.keyHash P (Str.ofString "UserWarning")) (Value.str (Str.ofString "UserWarning") 120) (Value.type "UserWarning")), (DictEntry.mk (PyData.keyHash P (Str.ofString "BlockingIOError")) (Value.str (Str.ofString "BlockingIOError") 121) (Value.type "BlockingIOError")), (DictEntry.mk (PyData.keyHash P (Str.ofString "ChildProcessError")) (Value.str (Str.ofString "ChildProcessError") 122) (Value.type "ChildProcessError")), (DictEntry.mk (PyData.keyHash P (Str.ofString "ConnectionError")) (Value.str (Str.ofString "ConnectionError") 123) (Value.type "ConnectionError")), (DictEntry.mk (PyData.keyHash P (Str.ofString "FileExistsError")) (Value.str (Str.ofString "FileExistsError") 124) (Value.type "FileExistsError")), (DictEntry.mk (PyData.keyHash P (Str.ofString "FileNotFoundError")) (Value.str (Str.ofString "FileNotFoundError") 125) (Value.type "FileNotFoundError")), (DictEntry.mk (PyData.keyHash P (Str.ofString "InterruptedError")) (Value.str (Str.ofString "InterruptedError") 126) (Value.type "InterruptedError")), (DictEntry.mk (PyData.keyHash P (Str.ofString "IsADirectoryError")) (Value.str (Str.ofString "IsADirectoryError") 127) (Value.type "IsADirectoryError")), (DictEntry.mk (PyData.keyHash P (Str.ofString "NotADirectoryError")) (Value.str (Str.ofString "NotADirectoryError") 128) (Value.type "NotADirectoryError")), (DictEntry.mk (PyData.keyHash P (Str.ofString "PermissionError")) (Value.str (Str.ofString "PermissionError") 129) (Value.type "PermissionError")), (DictEntry.mk (PyData.keyHash P (Str.ofString "ProcessLookupError")) (Value.str (Str.ofString "ProcessLookupError") 130) (Value.type "ProcessLookupError")), (DictEntry.mk (PyData.keyHash P (Str.ofString "TimeoutError")) (Value.str (Str.ofString "TimeoutError") 131) (Value.type "TimeoutError")), (DictEntry.mk (PyData.keyHash P (Str.ofString "IndentationError")) (Value.str (Str.ofString "IndentationError") 132) (Value.type "IndentationError")), (DictEntry.mk (PyData.keyHash P (Str.ofString "_IncompleteInputError")) (Value.str (Str.ofString "_IncompleteInputError") 133) (Value.type "_IncompleteInputError")), (DictEntry.mk (PyData.keyHash P (Str.ofString "IndexError")) (Value.str (Str.ofString "IndexError") 134) (Value.type "IndexError")), (DictEntry.mk (PyData.keyHash P (Str.ofString "KeyError")) (Value.str (Str.ofString "KeyError") 135) (Value.type "KeyError")), (DictEntry.mk (PyData.keyHash P (Str.ofString "ModuleNotFoundError")) (Value.str (Str.ofString "ModuleNotFoundError") 136) (Value.type "ModuleNotFoundError")), (DictEntry.mk (PyData.keyHash P (Str.ofString "NotImplementedError")) (Value.str (Str.ofString "NotImplementedError") 137) (Value.type "NotImplementedError")), (DictEntry.mk (PyData.keyHash P (Str.ofString "PythonFinalizationError")) (Value.str (Str.ofString "PythonFinalizationError") 138) (Value.type "PythonFinalizationError")), (DictEntry.mk (PyData.keyHash P (Str.ofString "RecursionError")) (Value.str (Str.ofString "RecursionError") 139) (Value.type "RecursionError")), (DictEntry.mk (PyData.keyHash P (Str.ofString "UnboundLocalError")) (Value.str (Str.ofString "UnboundLocalError") 140) (Value.type "UnboundLocalError")), (DictEntry.mk (PyData.keyHash P (Str.ofString "UnicodeError")) (Value.str (Str.ofString "UnicodeError") 141) (Value.type "UnicodeError")), (DictEntry.mk (PyData.keyHash P (Str.ofString "BrokenPipeError")) (Value.str (Str.ofString "BrokenPipeError") 142) (Value.type "BrokenPipeError")), (DictEntry.mk (PyData.keyHash P (Str.ofString "ConnectionAbortedError")) (Value.str (Str.ofString "ConnectionAbortedError") 143) (Value.type "ConnectionAbortedError")), (DictEntry.mk (PyData.keyHash P (Str.ofString "ConnectionRefusedError")) (Value.str (Str.ofString "ConnectionRefusedError") 144) (Value.type "ConnectionRefusedError")), (DictEntry.mk (PyData.keyHash P (Str.ofString "ConnectionResetError")) (Value.str (Str.ofString "ConnectionResetError") 145) (Value.type "ConnectionResetError")), (DictEntry.mk (PyData.keyHash P (Str.ofString "TabError")) (Value.str (Str.ofString "TabError") 146) (Value.type "TabError")), (DictEntry.mk (PyData.keyHash P (Str.ofString "UnicodeDecodeError")) (Value.str (Str.ofString "UnicodeDecodeError") 147) (Value.type "UnicodeDecodeError")), (DictEntry.mk (PyData.keyHash P (Str.ofString "UnicodeEncodeError")) (Value.str (Str.ofString "UnicodeEncodeError") 148) (Value.type "UnicodeEncodeError")), (DictEntry.mk (PyData.keyHash P (Str.ofString "UnicodeTranslateError")) (Value.str (Str.ofString "UnicodeTranslateError") 149) (Value.type "UnicodeTranslateError")), (DictEntry.mk (PyData.keyHash P (Str.ofString "ExceptionGroup")) (Value.str (Str.ofString "ExceptionGroup") 150) (Value.type "ExceptionGroup")), (DictEntry.mk (PyData.keyHash P (Str.ofString "EnvironmentError")) (Value.str (Str.ofString "EnvironmentError") 151) (Value.type "OSError")), (DictEntry.mk (PyData.keyHash P (Str.ofString "IOError")) (Value.str (Str.ofString "IOError") 152) (Value.type "OSError")), (DictEntry.mk (PyData.keyHash P (Str.ofString "open")) (Value.str (Str.ofString "open") 153) (Value.builtin "open")), (DictEntry.mk (PyData.keyHash P (Str.ofString "quit")) (Value.str (Str.ofString "quit") 154) (Value.builtin "builtins.quit#opaque")), (DictEntry.mk (PyData.keyHash P (Str.ofString "exit")) (Value.str (Str.ofString "exit") 155) (Value.builtin "builtins.exit#opaque")), (DictEntry.mk (PyData.keyHash P (Str.ofString "copyright")) (Value.str (Str.ofString "copyright") 156) (Value.builtin "builtins.copyright#opaque")), (DictEntry.mk (PyData.keyHash P (Str.ofString "credits")) (Value.str (Str.ofString "credits") 157) (Value.builtin "builtins.credits#opaque")), (DictEntry.mk (PyData.keyHash P (Str.ofString "license")) (Value.str (Str.ofString "license") 158) (Value.builtin "builtins.license#opaque")), (DictEntry.mk (PyData.keyHash P (Str.ofString "help")) (Value.str (Str.ofString "help") 159) (Value.builtin "builtins.help#opaque"))] 159) #[])
noncomputable abbrev o1 (P : Params) : Obj := (Obj.mk (Value.type "dict") none (Data.dict #[(DictEntry.mk (PyData.keyHash P (Str.ofString "builtins")) (Value.str (Str.ofString "builtins") 162) (Value.ref 4)), (DictEntry.mk (PyData.keyHash P (Str.ofString "__main__")) (Value.str (Str.ofString "__main__") 163) (Value.ref 5))] 2) #[])
noncomputable abbrev o2 (P : Params) : Obj := (Obj.mk Value.none none (Data.dict #[] 0) #[])
noncomputable abbrev o3 (P : Params) : Obj := (Obj.mk (Value.type "dict") none (Data.dict #[(DictEntry.mk (PyData.keyHash P (Str.ofString "__name__")) (Value.str (Str.ofString "__name__") 165) (Value.str (Str.ofString "__main__") 164)), (DictEntry.mk (PyData.keyHash P (Str.ofString "__doc__")) (Value.str (Str.ofString "__doc__") 166) Value.none), (DictEntry.mk (PyData.keyHash P (Str.ofString "__package__")) (Value.str (Str.ofString "__package__") 167) Value.none), (DictEntry.mk (PyData.keyHash P (Str.ofString "__loader__")) (Value.str (Str.ofString "__loader__") 168) (Value.builtin "__main__.__loader__#opaque")), (DictEntry.mk (PyData.keyHash P (Str.ofString "__spec__")) (Value.str (Str.ofString "__spec__") 169) Value.none), (DictEntry.mk (PyData.keyHash P (Str.ofString "__annotations__")) (Value.str (Str.ofString "__annotations__") 170) (Value.ref 6)), (DictEntry.mk (PyData.keyHash P (Str.ofString "__builtins__")) (Value.str (Str.ofString "__builtins__") 171) (Value.ref 4)), (DictEntry.mk (PyData.keyHash P (Str.ofString "__file__")) (Value.str (Str.ofString "__file__") 173) (Value.str (Str.ofString "/claim/cut.py") 172)), (DictEntry.mk (PyData.keyHash P (Str.ofString "__cached__")) (Value.str (Str.ofString "__cached__") 174) Value.none)] 9) #[])
noncomputable abbrev o4 (P : Params) : Obj := (Obj.mk (Value.type "module") (some 0) Data.plain #[])
noncomputable abbrev o5 (P : Params) : Obj := (Obj.mk (Value.type "module") (some 3) Data.plain #[])
noncomputable abbrev o6 (P : Params) : Obj := (Obj.mk (Value.type "dict") none (Data.dict #[] 0) #[])
noncomputable abbrev o7 (P : Params) : Obj := (Obj.mk (Value.type "tuple") none (Data.seq #[]) #[])
noncomputable abbrev o8 (P : Params) : Obj := (Obj.mk Value.none none (Data.fields #[]) #[])
noncomputable abbrev o9 (P : Params) : Obj := (Obj.mk (Value.type "code") none (Data.fields #[(Value.str (Str.ofString "<module>") 176), (Value.str (Str.ofString "<module>") 177), (Value.str (Str.ofString "/claim/cut.py") 178), (Value.int 1 0), (Value.int 0 0), (Value.int 0 0), (Value.int 0 0), (Value.int 0 0), (Value.ref 7), (Value.bool false), (Value.int 175 0), (Value.ref 8), Value.none, Value.none, Value.none, Value.none, (Value.int 179 0), (Value.int 1 0), (Value.str (Str.ofString "/claim/cut.py") 180)]) #[])
noncomputable abbrev o10 (P : Params) : Obj := (Obj.mk (Value.type "frame") none Data.plain #[(some (Value.ref 9)), (some (Value.ref 3)), (some (Value.ref 3)), none, (some (Value.str (Str.ofString "__main__") 164)), none, (some (Value.ref 0))])
noncomputable abbrev o11 (P : Params) : Obj := (Obj.mk (Value.type "tuple") none (Data.seq #[]) #[])
noncomputable abbrev o12 (P : Params) : Obj := (Obj.mk Value.none none (Data.fields #[]) #[])
noncomputable abbrev o13 (P : Params) : Obj := (Obj.mk (Value.type "code") none (Data.fields #[(Value.str (Str.ofString "<module>") 182), (Value.str (Str.ofString "<module>") 183), (Value.str (Str.ofString "/claim/cut.py") 184), (Value.int 1 0), (Value.int 0 0), (Value.int 0 0), (Value.int 0 0), (Value.int 0 0), (Value.ref 11), (Value.bool false), (Value.int 181 0), (Value.ref 12), Value.none, Value.none, Value.none, Value.none, (Value.int 185 0), (Value.int 1 0), (Value.str (Str.ofString "/claim/cut.py") 186)]) #[])
noncomputable abbrev o14 (P : Params) : Obj := (Obj.mk (Value.type "frame") none Data.plain #[(some (Value.ref 13)), (some (Value.ref 3)), (some (Value.ref 3)), none, (some (Value.str (Str.ofString "__main__") 164)), none, (some (Value.ref 0))])
noncomputable abbrev o2v1 (P : Params) : Obj := (Obj.mk Value.none none (Data.dict #[(DictEntry.mk (PyData.keyHash P (Str.ofString "type.__subclasses__.Exception.0")) (Value.str (Str.ofString "type.__subclasses__.Exception.0") 212) (Value.int 31 0)), (DictEntry.mk (PyData.keyHash P (Str.ofString "type.__subclasses__.Exception.n")) (Value.str (Str.ofString "type.__subclasses__.Exception.n") 213) (Value.int 1 0))] 2) #[])
noncomputable abbrev o3v1 (P : Params) : Obj := (Obj.mk (Value.type "dict") none (Data.dict #[(DictEntry.mk (PyData.keyHash P (Str.ofString "__name__")) (Value.str (Str.ofString "__name__") 165) (Value.str (Str.ofString "vectorcove.errors") 194)), (DictEntry.mk (PyData.keyHash P (Str.ofString "__doc__")) (Value.str (Str.ofString "__doc__") 166) Value.none), (DictEntry.mk (PyData.keyHash P (Str.ofString "__package__")) (Value.str (Str.ofString "__package__") 167) Value.none), (DictEntry.mk (PyData.keyHash P (Str.ofString "__loader__")) (Value.str (Str.ofString "__loader__") 168) (Value.builtin "__main__.__loader__#opaque")), (DictEntry.mk (PyData.keyHash P (Str.ofString "__spec__")) (Value.str (Str.ofString "__spec__") 169) Value.none), (DictEntry.mk (PyData.keyHash P (Str.ofString "__annotations__")) (Value.str (Str.ofString "__annotations__") 170) (Value.ref 6)), (DictEntry.mk (PyData.keyHash P (Str.ofString "__builtins__")) (Value.str (Str.ofString "__builtins__") 171) (Value.ref 4)), (DictEntry.mk (PyData.keyHash P (Str.ofString "__file__")) (Value.str (Str.ofString "__file__") 173) (Value.str (Str.ofString "/claim/cut.py") 172)), (DictEntry.mk (PyData.keyHash P (Str.ofString "__cached__")) (Value.str (Str.ofString "__cached__") 174) Value.none), (DictEntry.mk (PyData.keyHash P (Str.ofString "_wall")) (Value.str (Str.ofString "_wall") 193) (Value.ref 21)), (DictEntry.mk (PyData.keyHash P (Str.ofString "CoveError")) (Value.str (Str.ofString "CoveError") 215) (Value.ref 31)), (DictEntry.mk (PyData.keyHash P (Str.ofString "ReadError")) (Value.str (Str.ofString "ReadError") 242) (Value.ref 51))] 12) #[])
noncomputable abbrev o12v1 (P : Params) : Obj := (Obj.mk Value.none none (Data.fields #[(Value.int 1 0), (Value.int 0 0), (Value.ref 20), (Value.int 5 0), (Value.int 0 0), (Value.ref 27), (Value.int 7 0), (Value.int 0 0), (Value.ref 40)]) #[])
noncomputable abbrev o15 (P : Params) : Obj := (Obj.mk (Value.type "tuple") none (Data.seq #[]) #[])
noncomputable abbrev o16 (P : Params) : Obj := (Obj.mk Value.none none (Data.fields #[]) #[])
noncomputable abbrev o17 (P : Params) : Obj := (Obj.mk (Value.type "tuple") none (Data.seq #[(Value.str (Str.ofString "k") 190)] 0) #[])
noncomputable abbrev o18 (P : Params) : Obj := (Obj.mk (Value.type "tuple") none (Data.seq #[]) #[])
noncomputable abbrev o19 (P : Params) : Obj := (Obj.mk Value.none none (Data.func (FuncData.mk (Str.ofString "_wall") (Str.ofString "_wall") pa21 (FuncBody.stmts bd21) sc21 0 [] Value.none Value.none Value.none Value.none none Value.none Value.none 0)) #[])
noncomputable abbrev o20 (P : Params) : Obj := (Obj.mk (Value.type "code") none (Data.fields #[(Value.str (Str.ofString "_wall") 187), (Value.str (Str.ofString "_wall") 188), (Value.str (Str.ofString "/claim/cut.py") 189), (Value.int 1 0), (Value.int 1 0), (Value.int 0 0), (Value.int 0 0), (Value.int 3 0), (Value.ref 15), (Value.bool true), (Value.int 181 0), (Value.ref 16), Value.none, (Value.ref 17), (Value.ref 18), (Value.ref 19), (Value.int 191 0), (Value.int 1 0), (Value.str (Str.ofString "/claim/cut.py") 192)]) #[])
noncomputable abbrev o21 (P : Params) : Obj := (Obj.mk (Value.type "function") none (Data.func (FuncData.mk (Str.ofString "_wall") (Str.ofString "_wall") pa21 (FuncBody.stmts bd21) sc21 3 [] Value.none Value.none Value.none (Value.str (Str.ofString "__main__") 164) none (Value.ref 20) Value.none 0)) #[])
noncomputable abbrev o22 (P : Params) : Obj := (Obj.mk (Value.type "tuple") none (Data.seq #[(Value.type "Exception")] 0) #[])
noncomputable abbrev o23 (P : Params) : Obj := (Obj.mk (Value.type "builtin_function_or_method") none (Data.fields #[(Value.builtin "type.__prepare__"), (Value.type "type")]) #[])
noncomputable abbrev o24 (P : Params) : Obj := (Obj.mk (Value.type "dict") none (Data.dict #[(DictEntry.mk (PyData.keyHash P (Str.ofString "__module__")) (Value.str (Str.ofString "__module__") 203) (Value.str (Str.ofString "vectorcove.errors") 194)), (DictEntry.mk (PyData.keyHash P (Str.ofString "__qualname__")) (Value.str (Str.ofString "__qualname__") 205) (Value.str (Str.ofString "CoveError") 204)), (DictEntry.mk (PyData.keyHash P (Str.ofString "__firstlineno__")) (Value.str (Str.ofString "__firstlineno__") 207) (Value.int 5 206)), (DictEntry.mk (PyData.keyHash P (Str.ofString "__static_attributes__")) (Value.str (Str.ofString "__static_attributes__") 208) (Value.ref 29))] 4) #[])
noncomputable abbrev o25 (P : Params) : Obj := (Obj.mk (Value.type "tuple") none (Data.seq #[]) #[])
noncomputable abbrev o26 (P : Params) : Obj := (Obj.mk Value.none none (Data.fields #[]) #[])
noncomputable abbrev o27 (P : Params) : Obj := (Obj.mk (Value.type "code") none (Data.fields #[(Value.str (Str.ofString "CoveError") 198), (Value.str (Str.ofString "CoveError") 199), (Value.str (Str.ofString "/claim/cut.py") 200), (Value.int 5 0), (Value.int 0 0), (Value.int 0 0), (Value.int 0 0), (Value.int 0 0), (Value.ref 25), (Value.bool false), (Value.int 181 0), (Value.ref 26), Value.none, Value.none, Value.none, Value.none, (Value.int 201 0), (Value.int 5 0), (Value.str (Str.ofString "/claim/cut.py") 202)]) #[])
noncomputable abbrev o28 (P : Params) : Obj := (Obj.mk (Value.type "frame") none Data.plain #[(some (Value.ref 27)), (some (Value.ref 3)), (some (Value.ref 24)), none, (some (Value.str (Str.ofString "vectorcove.errors") 194)), none, (some (Value.ref 0))])
noncomputable abbrev o29 (P : Params) : Obj := (Obj.mk (Value.type "tuple") none (Data.seq #[]) #[])
noncomputable abbrev o30 (P : Params) : Obj := (Obj.mk (Value.type "dict") none (Data.dict #[(DictEntry.mk (PyData.keyHash P (Str.ofString "__module__")) (Value.str (Str.ofString "__module__") 203) (Value.str (Str.ofString "vectorcove.errors") 194)), (DictEntry.mk (PyData.keyHash P (Str.ofString "__firstlineno__")) (Value.str (Str.ofString "__firstlineno__") 207) (Value.int 5 206)), (DictEntry.mk (PyData.keyHash P (Str.ofString "__static_attributes__")) (Value.str (Str.ofString "__static_attributes__") 208) (Value.ref 29)), (DictEntry.mk (PyData.keyHash P (Str.ofString "__weakref__")) (Value.str (Str.ofString "__weakref__") 210) (Value.ref 32)), (DictEntry.mk (PyData.keyHash P (Str.ofString "__doc__")) (Value.str (Str.ofString "__doc__") 211) Value.none)] 3) #[])
noncomputable abbrev o31 (P : Params) : Obj := (Obj.mk (Value.type "type") none (Data.cls (ClassData.mk (Str.ofString "CoveError") [(Value.type "Exception")] [(Value.ref 31), (Value.type "Exception"), (Value.type "BaseException"), (Value.type "object")] 30 (Str.ofString "CoveError") true [] [(Value.ref 51)] false none false)) #[(some (Value.ref 22)), none, (some (Value.str (Str.ofString "CoveError") 196)), (some (Value.str (Str.ofString "CoveError") 204)), (some (Value.builtin "Exception.__new__")), (some (Value.bool true))])
noncomputable abbrev o32 (P : Params) : Obj := (Obj.mk (Value.type "getset_descriptor") none (Data.fields #[(Value.str (Str.ofString "__weakref__") 209), (Value.ref 31), (Value.builtin "ExceptionGroup.__weakref__"), Value.none]) #[])
noncomputable abbrev o33 (P : Params) : Obj := (Obj.mk (Value.type "super") none (Data.fields #[(Value.ref 31), (Value.ref 31), (Value.ref 31)]) #[])
noncomputable abbrev o34 (P : Params) : Obj := (Obj.mk (Value.type "builtin_function_or_method") none (Data.fields #[(Value.builtin "object.__init_subclass__"), (Value.ref 31)]) #[])
noncomputable abbrev o35 (P : Params) : Obj := (Obj.mk (Value.type "tuple") none (Data.seq #[(Value.ref 31)] 0) #[])
noncomputable abbrev o36 (P : Params) : Obj := (Obj.mk (Value.type "builtin_function_or_method") none (Data.fields #[(Value.builtin "type.__prepare__"), (Value.type "type")]) #[])
noncomputable abbrev o37 (P : Params) : Obj := (Obj.mk (Value.type "dict") none (Data.dict #[(DictEntry.mk (PyData.keyHash P (Str.ofString "__module__")) (Value.str (Str.ofString "__module__") 223) (Value.str (Str.ofString "vectorcove.errors") 194)), (DictEntry.mk (PyData.keyHash P (Str.ofString "__qualname__")) (Value.str (Str.ofString "__qualname__") 225) (Value.str (Str.ofString "ReadError") 224)), (DictEntry.mk (PyData.keyHash P (Str.ofString "__firstlineno__")) (Value.str (Str.ofString "__firstlineno__") 227) (Value.int 7 226)), (DictEntry.mk (PyData.keyHash P (Str.ofString "__init__")) (Value.str (Str.ofString "__init__") 236) (Value.ref 48)), (DictEntry.mk (PyData.keyHash P (Str.ofString "__static_attributes__")) (Value.str (Str.ofString "__static_attributes__") 239) (Value.ref 49))] 5) #[])
noncomputable abbrev o38 (P : Params) : Obj := (Obj.mk (Value.type "tuple") none (Data.seq #[]) #[])
noncomputable abbrev o39 (P : Params) : Obj := (Obj.mk Value.none none (Data.fields #[(Value.int 9 0), (Value.int 4 0), (Value.ref 47)]) #[])
noncomputable abbrev o40 (P : Params) : Obj := (Obj.mk (Value.type "code") none (Data.fields #[(Value.str (Str.ofString "ReadError") 218), (Value.str (Str.ofString "ReadError") 219), (Value.str (Str.ofString "/claim/cut.py") 220), (Value.int 7 0), (Value.int 0 0), (Value.int 0 0), (Value.int 0 0), (Value.int 0 0), (Value.ref 38), (Value.bool false), (Value.int 181 0), (Value.ref 39), Value.none, Value.none, Value.none, Value.none, (Value.int 221 0), (Value.int 7 0), (Value.str (Str.ofString "/claim/cut.py") 222)]) #[])
noncomputable abbrev o41 (P : Params) : Obj := (Obj.mk (Value.type "frame") none Data.plain #[(some (Value.ref 40)), (some (Value.ref 3)), (some (Value.ref 37)), none, (some (Value.str (Str.ofString "vectorcove.errors") 194)), none, (some (Value.ref 0))])
noncomputable abbrev o42 (P : Params) : Obj := (Obj.mk (Value.type "tuple") none (Data.seq #[]) #[])
noncomputable abbrev o43 (P : Params) : Obj := (Obj.mk Value.none none (Data.fields #[]) #[])
noncomputable abbrev o44 (P : Params) : Obj := (Obj.mk (Value.type "tuple") none (Data.seq #[(Value.str (Str.ofString "self") 231), (Value.str (Str.ofString "kind") 232), (Value.str (Str.ofString "at") 233)] 0) #[])
noncomputable abbrev o45 (P : Params) : Obj := (Obj.mk (Value.type "tuple") none (Data.seq #[]) #[])
noncomputable abbrev o46 (P : Params) : Obj := (Obj.mk Value.none none (Data.func (FuncData.mk (Str.ofString "__init__") (Str.ofString "ReadError.__init__") pa48 (FuncBody.stmts bd48) sc48 0 [] Value.none Value.none Value.none Value.none none Value.none Value.none 0)) #[])
noncomputable abbrev o47 (P : Params) : Obj := (Obj.mk (Value.type "code") none (Data.fields #[(Value.str (Str.ofString "__init__") 228), (Value.str (Str.ofString "ReadError.__init__") 229), (Value.str (Str.ofString "/claim/cut.py") 230), (Value.int 9 0), (Value.int 3 0), (Value.int 0 0), (Value.int 0 0), (Value.int 3 0), (Value.ref 42), (Value.bool true), (Value.int 181 0), (Value.ref 43), Value.none, (Value.ref 44), (Value.ref 45), (Value.ref 46), (Value.int 234 0), (Value.int 9 0), (Value.str (Str.ofString "/claim/cut.py") 235)]) #[])
noncomputable abbrev o48 (P : Params) : Obj := (Obj.mk (Value.type "function") none (Data.func (FuncData.mk (Str.ofString "__init__") (Str.ofString "ReadError.__init__") pa48 (FuncBody.stmts bd48) sc48 3 [] Value.none Value.none Value.none (Value.str (Str.ofString "vectorcove.errors") 194) none (Value.ref 47) Value.none 0)) #[])
noncomputable abbrev o49 (P : Params) : Obj := (Obj.mk (Value.type "tuple") none (Data.seq #[(Value.str (Str.ofString "at") 237), (Value.str (Str.ofString "kind") 238)] 0) #[])
noncomputable abbrev o50 (P : Params) : Obj := (Obj.mk (Value.type "dict") none (Data.dict #[(DictEntry.mk (PyData.keyHash P (Str.ofString "__module__")) (Value.str (Str.ofString "__module__") 223) (Value.str (Str.ofString "vectorcove.errors") 194)), (DictEntry.mk (PyData.keyHash P (Str.ofString "__firstlineno__")) (Value.str (Str.ofString "__firstlineno__") 227) (Value.int 7 226)), (DictEntry.mk (PyData.keyHash P (Str.ofString "__init__")) (Value.str (Str.ofString "__init__") 236) (Value.ref 48)), (DictEntry.mk (PyData.keyHash P (Str.ofString "__static_attributes__")) (Value.str (Str.ofString "__static_attributes__") 239) (Value.ref 49)), (DictEntry.mk (PyData.keyHash P (Str.ofString "__doc__")) (Value.str (Str.ofString "__doc__") 240) Value.none)] 2) #[])
noncomputable abbrev o51 (P : Params) : Obj := (Obj.mk (Value.type "type") none (Data.cls (ClassData.mk (Str.ofString "ReadError") [(Value.ref 31)] [(Value.ref 51), (Value.ref 31), (Value.type "Exception"), (Value.type "BaseException"), (Value.type "object")] 50 (Str.ofString "ReadError") true [] [] false none false)) #[(some (Value.ref 35)), none, (some (Value.str (Str.ofString "ReadError") 216)), (some (Value.str (Str.ofString "ReadError") 224)), (some (Value.builtin "Exception.__new__")), (some (Value.bool true))])
noncomputable abbrev o52 (P : Params) : Obj := (Obj.mk (Value.type "super") none (Data.fields #[(Value.ref 51), (Value.ref 51), (Value.ref 51)]) #[])
noncomputable abbrev o53 (P : Params) : Obj := (Obj.mk (Value.type "builtin_function_or_method") none (Data.fields #[(Value.builtin "object.__init_subclass__"), (Value.ref 51)]) #[])
noncomputable abbrev o3v2 (P : Params) : Obj := (Obj.mk (Value.type "dict") none (Data.dict #[(DictEntry.mk (PyData.keyHash P (Str.ofString "__name__")) (Value.str (Str.ofString "__name__") 165) (Value.str (Str.ofString "vectorcove.tokens") 305)), (DictEntry.mk (PyData.keyHash P (Str.ofString "__doc__")) (Value.str (Str.ofString "__doc__") 166) Value.none), (DictEntry.mk (PyData.keyHash P (Str.ofString "__package__")) (Value.str (Str.ofString "__package__") 167) Value.none), (DictEntry.mk (PyData.keyHash P (Str.ofString "__loader__")) (Value.str (Str.ofString "__loader__") 168) (Value.builtin "__main__.__loader__#opaque")), (DictEntry.mk (PyData.keyHash P (Str.ofString "__spec__")) (Value.str (Str.ofString "__spec__") 169) Value.none), (DictEntry.mk (PyData.keyHash P (Str.ofString "__annotations__")) (Value.str (Str.ofString "__annotations__") 170) (Value.ref 6)), (DictEntry.mk (PyData.keyHash P (Str.ofString "__builtins__")) (Value.str (Str.ofString "__builtins__") 171) (Value.ref 4)), (DictEntry.mk (PyData.keyHash P (Str.ofString "__file__")) (Value.str (Str.ofString "__file__") 173) (Value.str (Str.ofString "/claim/cut.py") 172)), (DictEntry.mk (PyData.keyHash P (Str.ofString "__cached__")) (Value.str (Str.ofString "__cached__") 174) Value.none), (DictEntry.mk (PyData.keyHash P (Str.ofString "_wall")) (Value.str (Str.ofString "_wall") 193) (Value.ref 21)), (DictEntry.mk (PyData.keyHash P (Str.ofString "CoveError")) (Value.str (Str.ofString "CoveError") 215) (Value.ref 31)), (DictEntry.mk (PyData.keyHash P (Str.ofString "ReadError")) (Value.str (Str.ofString "ReadError") 242) (Value.ref 51)), (DictEntry.mk (PyData.keyHash P (Str.ofString "Vector")) (Value.str (Str.ofString "Vector") 286) (Value.ref 78)), (DictEntry.mk (PyData.keyHash P (Str.ofString "whole")) (Value.str (Str.ofString "whole") 293) (Value.ref 89)), (DictEntry.mk (PyData.keyHash P (Str.ofString "number")) (Value.str (Str.ofString "number") 304) (Value.ref 97)), (DictEntry.mk (PyData.keyHash P (Str.ofString "MOST_EXPONENT")) (Value.str (Str.ofString "MOST_EXPONENT") 308) (Value.int 4096 307)), (DictEntry.mk (PyData.keyHash P (Str.ofString "MOST_INTEGER")) (Value.str (Str.ofString "MOST_INTEGER") 310) (Value.int 2147483647 309)), (DictEntry.mk (PyData.keyHash P (Str.ofString "Token")) (Value.str (Str.ofString "Token") 345) (Value.ref 114))] 18) #[])
noncomputable abbrev o12v2 (P : Params) : Obj := (Obj.mk Value.none none (Data.fields #[(Value.int 1 0), (Value.int 0 0), (Value.ref 20), (Value.int 5 0), (Value.int 0 0), (Value.ref 27), (Value.int 7 0), (Value.int 0 0), (Value.ref 40), (Value.int 13 0), (Value.int 0 0), (Value.ref 59), (Value.int 24 0), (Value.int 0 0), (Value.ref 88), (Value.int 26 0), (Value.int 0 0), (Value.ref 96), (Value.int 35 0), (Value.int 0 0), (Value.ref 103)]) #[])
noncomputable abbrev o54 (P : Params) : Obj := (Obj.mk (Value.type "tuple") none (Data.seq #[]) #[])
noncomputable abbrev o55 (P : Params) : Obj := (Obj.mk (Value.type "builtin_function_or_method") none (Data.fields #[(Value.builtin "type.__prepare__"), (Value.type "type")]) #[])
noncomputable abbrev o56 (P : Params) : Obj := (Obj.mk (Value.type "dict") none (Data.dict #[(DictEntry.mk (PyData.keyHash P (Str.ofString "__module__")) (Value.str (Str.ofString "__module__") 252) (Value.str (Str.ofString "vectorcove.values") 243)), (DictEntry.mk (PyData.keyHash P (Str.ofString "__qualname__")) (Value.str (Str.ofString "__qualname__") 254) (Value.str (Str.ofString "Vector") 253)), (DictEntry.mk (PyData.keyHash P (Str.ofString "__firstlineno__")) (Value.str (Str.ofString "__firstlineno__") 256) (Value.int 13 255)), (DictEntry.mk (PyData.keyHash P (Str.ofString "__init__")) (Value.str (Str.ofString "__init__") 266) (Value.ref 68)), (DictEntry.mk (PyData.keyHash P (Str.ofString "copy")) (Value.str (Str.ofString "copy") 273) (Value.ref 75)), (DictEntry.mk (PyData.keyHash P (Str.ofString "__static_attributes__")) (Value.str (Str.ofString "__static_attributes__") 279) (Value.ref 76))] 6) #[])
noncomputable abbrev o57 (P : Params) : Obj := (Obj.mk (Value.type "tuple") none (Data.seq #[]) #[])
noncomputable abbrev o58 (P : Params) : Obj := (Obj.mk Value.none none (Data.fields #[(Value.int 15 0), (Value.int 4 0), (Value.ref 67), (Value.int 22 0), (Value.int 4 0), (Value.ref 74)]) #[])
noncomputable abbrev o59 (P : Params) : Obj := (Obj.mk (Value.type "code") none (Data.fields #[(Value.str (Str.ofString "Vector") 247), (Value.str (Str.ofString "Vector") 248), (Value.str (Str.ofString "/claim/cut.py") 249), (Value.int 13 0), (Value.int 0 0), (Value.int 0 0), (Value.int 0 0), (Value.int 0 0), (Value.ref 57), (Value.bool false), (Value.int 181 0), (Value.ref 58), Value.none, Value.none, Value.none, Value.none, (Value.int 250 0), (Value.int 13 0), (Value.str (Str.ofString "/claim/cut.py") 251)]) #[])
noncomputable abbrev o60 (P : Params) : Obj := (Obj.mk (Value.type "frame") none Data.plain #[(some (Value.ref 59)), (some (Value.ref 3)), (some (Value.ref 56)), none, (some (Value.str (Str.ofString "vectorcove.values") 243)), none, (some (Value.ref 0))])
noncomputable abbrev o61 (P : Params) : Obj := (Obj.mk (Value.type "tuple") none (Data.seq #[Value.none] 0) #[])
noncomputable abbrev o62 (P : Params) : Obj := (Obj.mk (Value.type "tuple") none (Data.seq #[]) #[])
noncomputable abbrev o63 (P : Params) : Obj := (Obj.mk Value.none none (Data.fields #[]) #[])
noncomputable abbrev o64 (P : Params) : Obj := (Obj.mk (Value.type "tuple") none (Data.seq #[(Value.str (Str.ofString "self") 260), (Value.str (Str.ofString "kind") 261), (Value.str (Str.ofString "items") 262), (Value.str (Str.ofString "attrs") 263)] 0) #[])
noncomputable abbrev o65 (P : Params) : Obj := (Obj.mk (Value.type "tuple") none (Data.seq #[]) #[])
noncomputable abbrev o66 (P : Params) : Obj := (Obj.mk Value.none none (Data.func (FuncData.mk (Str.ofString "__init__") (Str.ofString "Vector.__init__") pa68 (FuncBody.stmts bd68) sc68 0 [] Value.none Value.none Value.none Value.none none Value.none Value.none 0)) #[])
noncomputable abbrev o67 (P : Params) : Obj := (Obj.mk (Value.type "code") none (Data.fields #[(Value.str (Str.ofString "__init__") 257), (Value.str (Str.ofString "Vector.__init__") 258), (Value.str (Str.ofString "/claim/cut.py") 259), (Value.int 15 0), (Value.int 4 0), (Value.int 0 0), (Value.int 0 0), (Value.int 3 0), (Value.ref 62), (Value.bool true), (Value.int 181 0), (Value.ref 63), Value.none, (Value.ref 64), (Value.ref 65), (Value.ref 66), (Value.int 264 0), (Value.int 15 0), (Value.str (Str.ofString "/claim/cut.py") 265)]) #[])
noncomputable abbrev o68 (P : Params) : Obj := (Obj.mk (Value.type "function") none (Data.func (FuncData.mk (Str.ofString "__init__") (Str.ofString "Vector.__init__") pa68 (FuncBody.stmts bd68) sc68 3 [] (Value.ref 61) Value.none Value.none (Value.str (Str.ofString "vectorcove.values") 243) none (Value.ref 67) Value.none 0)) #[])
noncomputable abbrev o69 (P : Params) : Obj := (Obj.mk (Value.type "tuple") none (Data.seq #[]) #[])
noncomputable abbrev o70 (P : Params) : Obj := (Obj.mk Value.none none (Data.fields #[]) #[])
noncomputable abbrev o71 (P : Params) : Obj := (Obj.mk (Value.type "tuple") none (Data.seq #[(Value.str (Str.ofString "self") 270)] 0) #[])
noncomputable abbrev o72 (P : Params) : Obj := (Obj.mk (Value.type "tuple") none (Data.seq #[]) #[])
noncomputable abbrev o73 (P : Params) : Obj := (Obj.mk Value.none none (Data.func (FuncData.mk (Str.ofString "copy") (Str.ofString "Vector.copy") pa75 (FuncBody.stmts bd75) sc75 0 [] Value.none Value.none Value.none Value.none none Value.none Value.none 0)) #[])
noncomputable abbrev o74 (P : Params) : Obj := (Obj.mk (Value.type "code") none (Data.fields #[(Value.str (Str.ofString "copy") 267), (Value.str (Str.ofString "Vector.copy") 268), (Value.str (Str.ofString "/claim/cut.py") 269), (Value.int 22 0), (Value.int 1 0), (Value.int 0 0), (Value.int 0 0), (Value.int 3 0), (Value.ref 69), (Value.bool true), (Value.int 181 0), (Value.ref 70), Value.none, (Value.ref 71), (Value.ref 72), (Value.ref 73), (Value.int 271 0), (Value.int 22 0), (Value.str (Str.ofString "/claim/cut.py") 272)]) #[])
noncomputable abbrev o75 (P : Params) : Obj := (Obj.mk (Value.type "function") none (Data.func (FuncData.mk (Str.ofString "copy") (Str.ofString "Vector.copy") pa75 (FuncBody.stmts bd75) sc75 3 [] Value.none Value.none Value.none (Value.str (Str.ofString "vectorcove.values") 243) none (Value.ref 74) Value.none 0)) #[])
noncomputable abbrev o76 (P : Params) : Obj := (Obj.mk (Value.type "tuple") none (Data.seq #[(Value.str (Str.ofString "attrs") 274), (Value.str (Str.ofString "items") 275), (Value.str (Str.ofString "kind") 276), (Value.str (Str.ofString "loose") 277), (Value.str (Str.ofString "shared") 278)] 0) #[])
noncomputable abbrev o77 (P : Params) : Obj := (Obj.mk (Value.type "dict") none (Data.dict #[(DictEntry.mk (PyData.keyHash P (Str.ofString "__module__")) (Value.str (Str.ofString "__module__") 252) (Value.str (Str.ofString "vectorcove.values") 243)), (DictEntry.mk (PyData.keyHash P (Str.ofString "__firstlineno__")) (Value.str (Str.ofString "__firstlineno__") 256) (Value.int 13 255)), (DictEntry.mk (PyData.keyHash P (Str.ofString "__init__")) (Value.str (Str.ofString "__init__") 266) (Value.ref 68)), (DictEntry.mk (PyData.keyHash P (Str.ofString "copy")) (Value.str (Str.ofString "copy") 273) (Value.ref 75)), (DictEntry.mk (PyData.keyHash P (Str.ofString "__static_attributes__")) (Value.str (Str.ofString "__static_attributes__") 279) (Value.ref 76)), (DictEntry.mk (PyData.keyHash P (Str.ofString "__dict__")) (Value.str (Str.ofString "__dict__") 281) (Value.ref 79)), (DictEntry.mk (PyData.keyHash P (Str.ofString "__weakref__")) (Value.str (Str.ofString "__weakref__") 283) (Value.ref 80)), (DictEntry.mk (PyData.keyHash P (Str.ofString "__doc__")) (Value.str (Str.ofString "__doc__") 284) Value.none)] 4) #[])
noncomputable abbrev o78 (P : Params) : Obj := (Obj.mk (Value.type "type") none (Data.cls (ClassData.mk (Str.ofString "Vector") [(Value.type "object")] [(Value.ref 78), (Value.type "object")] 77 (Str.ofString "Vector") true [] [] false none false)) #[none, none, (some (Value.str (Str.ofString "Vector") 245)), (some (Value.str (Str.ofString "Vector") 253)), (some (Value.builtin "object.__new__")), (some (Value.bool true))])
noncomputable abbrev o79 (P : Params) : Obj := (Obj.mk (Value.type "getset_descriptor") none (Data.fields #[(Value.str (Str.ofString "__dict__") 280), (Value.ref 78), (Value.builtin "function.__dict__"), (Value.builtin "function.__dict__#set")]) #[])
noncomputable abbrev o80 (P : Params) : Obj := (Obj.mk (Value.type "getset_descriptor") none (Data.fields #[(Value.str (Str.ofString "__weakref__") 282), (Value.ref 78), (Value.builtin "ExceptionGroup.__weakref__"), Value.none]) #[])
noncomputable abbrev o81 (P : Params) : Obj := (Obj.mk (Value.type "super") none (Data.fields #[(Value.ref 78), (Value.ref 78), (Value.ref 78)]) #[])
noncomputable abbrev o82 (P : Params) : Obj := (Obj.mk (Value.type "builtin_function_or_method") none (Data.fields #[(Value.builtin "object.__init_subclass__"), (Value.ref 78)]) #[])
noncomputable abbrev o83 (P : Params) : Obj := (Obj.mk (Value.type "tuple") none (Data.seq #[]) #[])
noncomputable abbrev o84 (P : Params) : Obj := (Obj.mk Value.none none (Data.fields #[]) #[])
noncomputable abbrev o85 (P : Params) : Obj := (Obj.mk (Value.type "tuple") none (Data.seq #[(Value.str (Str.ofString "n") 290)] 0) #[])
noncomputable abbrev o86 (P : Params) : Obj := (Obj.mk (Value.type "tuple") none (Data.seq #[]) #[])
noncomputable abbrev o87 (P : Params) : Obj := (Obj.mk Value.none none (Data.func (FuncData.mk (Str.ofString "whole") (Str.ofString "whole") pa89 (FuncBody.stmts bd89) sc89 0 [] Value.none Value.none Value.none Value.none none Value.none Value.none 0)) #[])
noncomputable abbrev o88 (P : Params) : Obj := (Obj.mk (Value.type "code") none (Data.fields #[(Value.str (Str.ofString "whole") 287), (Value.str (Str.ofString "whole") 288), (Value.str (Str.ofString "/claim/cut.py") 289), (Value.int 24 0), (Value.int 1 0), (Value.int 0 0), (Value.int 0 0), (Value.int 3 0), (Value.ref 83), (Value.bool true), (Value.int 181 0), (Value.ref 84), Value.none, (Value.ref 85), (Value.ref 86), (Value.ref 87), (Value.int 291 0), (Value.int 24 0), (Value.str (Str.ofString "/claim/cut.py") 292)]) #[])
noncomputable abbrev o89 (P : Params) : Obj := (Obj.mk (Value.type "function") none (Data.func (FuncData.mk (Str.ofString "whole") (Str.ofString "whole") pa89 (FuncBody.stmts bd89) sc89 3 [] Value.none Value.none Value.none (Value.str (Str.ofString "vectorcove.values") 243) none (Value.ref 88) Value.none 0)) #[])
noncomputable abbrev o90 (P : Params) : Obj := (Obj.mk (Value.type "tuple") none (Data.seq #[(Value.int 1 294)] 0) #[])
noncomputable abbrev o91 (P : Params) : Obj := (Obj.mk (Value.type "tuple") none (Data.seq #[]) #[])
noncomputable abbrev o92 (P : Params) : Obj := (Obj.mk Value.none none (Data.fields #[]) #[])
noncomputable abbrev o93 (P : Params) : Obj := (Obj.mk (Value.type "tuple") none (Data.seq #[(Value.str (Str.ofString "n") 298), (Value.str (Str.ofString "d") 299), (Value.str (Str.ofString "a") 300), (Value.str (Str.ofString "b") 301)] 0) #[])
noncomputable abbrev o94 (P : Params) : Obj := (Obj.mk (Value.type "tuple") none (Data.seq #[]) #[])
noncomputable abbrev o95 (P : Params) : Obj := (Obj.mk Value.none none (Data.func (FuncData.mk (Str.ofString "number") (Str.ofString "number") pa97 (FuncBody.stmts bd97) sc97 0 [] Value.none Value.none Value.none Value.none none Value.none Value.none 0)) #[])
noncomputable abbrev o96 (P : Params) : Obj := (Obj.mk (Value.type "code") none (Data.fields #[(Value.str (Str.ofString "number") 295), (Value.str (Str.ofString "number") 296), (Value.str (Str.ofString "/claim/cut.py") 297), (Value.int 26 0), (Value.int 2 0), (Value.int 0 0), (Value.int 0 0), (Value.int 3 0), (Value.ref 91), (Value.bool true), (Value.int 181 0), (Value.ref 92), Value.none, (Value.ref 93), (Value.ref 94), (Value.ref 95), (Value.int 302 0), (Value.int 26 0), (Value.str (Str.ofString "/claim/cut.py") 303)]) #[])
noncomputable abbrev o97 (P : Params) : Obj := (Obj.mk (Value.type "function") none (Data.func (FuncData.mk (Str.ofString "number") (Str.ofString "number") pa97 (FuncBody.stmts bd97) sc97 3 [] (Value.ref 90) Value.none Value.none (Value.str (Str.ofString "vectorcove.values") 243) none (Value.ref 96) Value.none 0)) #[])
noncomputable abbrev o98 (P : Params) : Obj := (Obj.mk (Value.type "tuple") none (Data.seq #[]) #[])
noncomputable abbrev o99 (P : Params) : Obj := (Obj.mk (Value.type "builtin_function_or_method") none (Data.fields #[(Value.builtin "type.__prepare__"), (Value.type "type")]) #[])
noncomputable abbrev o100 (P : Params) : Obj := (Obj.mk (Value.type "dict") none (Data.dict #[(DictEntry.mk (PyData.keyHash P (Str.ofString "__module__")) (Value.str (Str.ofString "__module__") 318) (Value.str (Str.ofString "vectorcove.tokens") 305)), (DictEntry.mk (PyData.keyHash P (Str.ofString "__qualname__")) (Value.str (Str.ofString "__qualname__") 320) (Value.str (Str.ofString "Token") 319)), (DictEntry.mk (PyData.keyHash P (Str.ofString "__firstlineno__")) (Value.str (Str.ofString "__firstlineno__") 322) (Value.int 35 321)), (DictEntry.mk (PyData.keyHash P (Str.ofString "__init__")) (Value.str (Str.ofString "__init__") 333) (Value.ref 111)), (DictEntry.mk (PyData.keyHash P (Str.ofString "__static_attributes__")) (Value.str (Str.ofString "__static_attributes__") 338) (Value.ref 112))] 5) #[])
noncomputable abbrev o101 (P : Params) : Obj := (Obj.mk (Value.type "tuple") none (Data.seq #[]) #[])
noncomputable abbrev o102 (P : Params) : Obj := (Obj.mk Value.none none (Data.fields #[(Value.int 37 0), (Value.int 4 0), (Value.ref 110)]) #[])
noncomputable abbrev o103 (P : Params) : Obj := (Obj.mk (Value.type "code") none (Data.fields #[(Value.str (Str.ofString "Token") 313), (Value.str (Str.ofString "Token") 314), (Value.str (Str.ofString "/claim/cut.py") 315), (Value.int 35 0), (Value.int 0 0), (Value.int 0 0), (Value.int 0 0), (Value.int 0 0), (Value.ref 101), (Value.bool false), (Value.int 181 0), (Value.ref 102), Value.none, Value.none, Value.none, Value.none, (Value.int 316 0), (Value.int 35 0), (Value.str (Str.ofString "/claim/cut.py") 317)]) #[])
noncomputable abbrev o104 (P : Params) : Obj := (Obj.mk (Value.type "frame") none Data.plain #[(some (Value.ref 103)), (some (Value.ref 3)), (some (Value.ref 100)), none, (some (Value.str (Str.ofString "vectorcove.tokens") 305)), none, (some (Value.ref 0))])
noncomputable abbrev o105 (P : Params) : Obj := (Obj.mk (Value.type "tuple") none (Data.seq #[]) #[])
noncomputable abbrev o106 (P : Params) : Obj := (Obj.mk Value.none none (Data.fields #[]) #[])
noncomputable abbrev o107 (P : Params) : Obj := (Obj.mk (Value.type "tuple") none (Data.seq #[(Value.str (Str.ofString "self") 326), (Value.str (Str.ofString "kind") 327), (Value.str (Str.ofString "value") 328), (Value.str (Str.ofString "at") 329), (Value.str (Str.ofString "newline") 330)] 0) #[])
noncomputable abbrev o108 (P : Params) : Obj := (Obj.mk (Value.type "tuple") none (Data.seq #[]) #[])
noncomputable abbrev o109 (P : Params) : Obj := (Obj.mk Value.none none (Data.func (FuncData.mk (Str.ofString "__init__") (Str.ofString "Token.__init__") pa111 (FuncBody.stmts bd111) sc111 0 [] Value.none Value.none Value.none Value.none none Value.none Value.none 0)) #[])
noncomputable abbrev o110 (P : Params) : Obj := (Obj.mk (Value.type "code") none (Data.fields #[(Value.str (Str.ofString "__init__") 323), (Value.str (Str.ofString "Token.__init__") 324), (Value.str (Str.ofString "/claim/cut.py") 325), (Value.int 37 0), (Value.int 5 0), (Value.int 0 0), (Value.int 0 0), (Value.int 3 0), (Value.ref 105), (Value.bool true), (Value.int 181 0), (Value.ref 106), Value.none, (Value.ref 107), (Value.ref 108), (Value.ref 109), (Value.int 331 0), (Value.int 37 0), (Value.str (Str.ofString "/claim/cut.py") 332)]) #[])
noncomputable abbrev o111 (P : Params) : Obj := (Obj.mk (Value.type "function") none (Data.func (FuncData.mk (Str.ofString "__init__") (Str.ofString "Token.__init__") pa111 (FuncBody.stmts bd111) sc111 3 [] Value.none Value.none Value.none (Value.str (Str.ofString "vectorcove.tokens") 305) none (Value.ref 110) Value.none 0)) #[])
noncomputable abbrev o112 (P : Params) : Obj := (Obj.mk (Value.type "tuple") none (Data.seq #[(Value.str (Str.ofString "at") 334), (Value.str (Str.ofString "kind") 335), (Value.str (Str.ofString "newline") 336), (Value.str (Str.ofString "value") 337)] 0) #[])
noncomputable abbrev o113 (P : Params) : Obj := (Obj.mk (Value.type "dict") none (Data.dict #[(DictEntry.mk (PyData.keyHash P (Str.ofString "__module__")) (Value.str (Str.ofString "__module__") 318) (Value.str (Str.ofString "vectorcove.tokens") 305)), (DictEntry.mk (PyData.keyHash P (Str.ofString "__firstlineno__")) (Value.str (Str.ofString "__firstlineno__") 322) (Value.int 35 321)), (DictEntry.mk (PyData.keyHash P (Str.ofString "__init__")) (Value.str (Str.ofString "__init__") 333) (Value.ref 111)), (DictEntry.mk (PyData.keyHash P (Str.ofString "__static_attributes__")) (Value.str (Str.ofString "__static_attributes__") 338) (Value.ref 112)), (DictEntry.mk (PyData.keyHash P (Str.ofString "__dict__")) (Value.str (Str.ofString "__dict__") 340) (Value.ref 115)), (DictEntry.mk (PyData.keyHash P (Str.ofString "__weakref__")) (Value.str (Str.ofString "__weakref__") 342) (Value.ref 116)), (DictEntry.mk (PyData.keyHash P (Str.ofString "__doc__")) (Value.str (Str.ofString "__doc__") 343) Value.none)] 4) #[])
noncomputable abbrev o114 (P : Params) : Obj := (Obj.mk (Value.type "type") none (Data.cls (ClassData.mk (Str.ofString "Token") [(Value.type "object")] [(Value.ref 114), (Value.type "object")] 113 (Str.ofString "Token") true [] [] false none false)) #[none, none, (some (Value.str (Str.ofString "Token") 311)), (some (Value.str (Str.ofString "Token") 319)), (some (Value.builtin "object.__new__")), (some (Value.bool true))])
noncomputable abbrev o115 (P : Params) : Obj := (Obj.mk (Value.type "getset_descriptor") none (Data.fields #[(Value.str (Str.ofString "__dict__") 339), (Value.ref 114), (Value.builtin "function.__dict__"), (Value.builtin "function.__dict__#set")]) #[])
noncomputable abbrev o116 (P : Params) : Obj := (Obj.mk (Value.type "getset_descriptor") none (Data.fields #[(Value.str (Str.ofString "__weakref__") 341), (Value.ref 114), (Value.builtin "ExceptionGroup.__weakref__"), Value.none]) #[])
noncomputable abbrev o117 (P : Params) : Obj := (Obj.mk (Value.type "super") none (Data.fields #[(Value.ref 114), (Value.ref 114), (Value.ref 114)]) #[])
noncomputable abbrev o118 (P : Params) : Obj := (Obj.mk (Value.type "builtin_function_or_method") none (Data.fields #[(Value.builtin "object.__init_subclass__"), (Value.ref 114)]) #[])
noncomputable abbrev o3v3 (P : Params) : Obj := (Obj.mk (Value.type "dict") none (Data.dict #[(DictEntry.mk (PyData.keyHash P (Str.ofString "__name__")) (Value.str (Str.ofString "__name__") 165) (Value.str (Str.ofString "vectorcove.tokens") 305)), (DictEntry.mk (PyData.keyHash P (Str.ofString "__doc__")) (Value.str (Str.ofString "__doc__") 166) Value.none), (DictEntry.mk (PyData.keyHash P (Str.ofString "__package__")) (Value.str (Str.ofString "__package__") 167) Value.none), (DictEntry.mk (PyData.keyHash P (Str.ofString "__loader__")) (Value.str (Str.ofString "__loader__") 168) (Value.builtin "__main__.__loader__#opaque")), (DictEntry.mk (PyData.keyHash P (Str.ofString "__spec__")) (Value.str (Str.ofString "__spec__") 169) Value.none), (DictEntry.mk (PyData.keyHash P (Str.ofString "__annotations__")) (Value.str (Str.ofString "__annotations__") 170) (Value.ref 6)), (DictEntry.mk (PyData.keyHash P (Str.ofString "__builtins__")) (Value.str (Str.ofString "__builtins__") 171) (Value.ref 4)), (DictEntry.mk (PyData.keyHash P (Str.ofString "__file__")) (Value.str (Str.ofString "__file__") 173) (Value.str (Str.ofString "/claim/cut.py") 172)), (DictEntry.mk (PyData.keyHash P (Str.ofString "__cached__")) (Value.str (Str.ofString "__cached__") 174) Value.none), (DictEntry.mk (PyData.keyHash P (Str.ofString "_wall")) (Value.str (Str.ofString "_wall") 193) (Value.ref 21)), (DictEntry.mk (PyData.keyHash P (Str.ofString "CoveError")) (Value.str (Str.ofString "CoveError") 215) (Value.ref 31)), (DictEntry.mk (PyData.keyHash P (Str.ofString "ReadError")) (Value.str (Str.ofString "ReadError") 242) (Value.ref 51)), (DictEntry.mk (PyData.keyHash P (Str.ofString "Vector")) (Value.str (Str.ofString "Vector") 286) (Value.ref 78)), (DictEntry.mk (PyData.keyHash P (Str.ofString "whole")) (Value.str (Str.ofString "whole") 293) (Value.ref 89)), (DictEntry.mk (PyData.keyHash P (Str.ofString "number")) (Value.str (Str.ofString "number") 304) (Value.ref 97)), (DictEntry.mk (PyData.keyHash P (Str.ofString "MOST_EXPONENT")) (Value.str (Str.ofString "MOST_EXPONENT") 308) (Value.int 4096 307)), (DictEntry.mk (PyData.keyHash P (Str.ofString "MOST_INTEGER")) (Value.str (Str.ofString "MOST_INTEGER") 310) (Value.int 2147483647 309)), (DictEntry.mk (PyData.keyHash P (Str.ofString "Token")) (Value.str (Str.ofString "Token") 345) (Value.ref 114)), (DictEntry.mk (PyData.keyHash P (Str.ofString "keywords")) (Value.str (Str.ofString "keywords") 351) (Value.ref 125)), (DictEntry.mk (PyData.keyHash P (Str.ofString "is_letter")) (Value.str (Str.ofString "is_letter") 358) (Value.ref 132)), (DictEntry.mk (PyData.keyHash P (Str.ofString "is_digit")) (Value.str (Str.ofString "is_digit") 365) (Value.ref 139)), (DictEntry.mk (PyData.keyHash P (Str.ofString "is_name_char")) (Value.str (Str.ofString "is_name_char") 372) (Value.ref 146)), (DictEntry.mk (PyData.keyHash P (Str.ofString "hex_value")) (Value.str (Str.ofString "hex_value") 379) (Value.ref 153)), (DictEntry.mk (PyData.keyHash P (Str.ofString "simple_escape")) (Value.str (Str.ofString "simple_escape") 387) (Value.ref 160)), (DictEntry.mk (PyData.keyHash P (Str.ofString "digits_value")) (Value.str (Str.ofString "digits_value") 396) (Value.ref 167))] 25) #[])
noncomputable abbrev o12v3 (P : Params) : Obj := (Obj.mk Value.none none (Data.fields #[(Value.int 1 0), (Value.int 0 0), (Value.ref 20), (Value.int 5 0), (Value.int 0 0), (Value.ref 27), (Value.int 7 0), (Value.int 0 0), (Value.ref 40), (Value.int 13 0), (Value.int 0 0), (Value.ref 59), (Value.int 24 0), (Value.int 0 0), (Value.ref 88), (Value.int 26 0), (Value.int 0 0), (Value.ref 96), (Value.int 35 0), (Value.int 0 0), (Value.ref 103), (Value.int 42 0), (Value.int 0 0), (Value.ref 124), (Value.int 44 0), (Value.int 0 0), (Value.ref 131), (Value.int 46 0), (Value.int 0 0), (Value.ref 138), (Value.int 48 0), (Value.int 0 0), (Value.ref 145), (Value.int 50 0), (Value.int 0 0), (Value.ref 152), (Value.int 54 0), (Value.int 0 0), (Value.ref 159), (Value.int 61 0), (Value.int 0 0), (Value.ref 166)]) #[])
noncomputable abbrev o119 (P : Params) : Obj := (Obj.mk (Value.type "tuple") none (Data.seq #[]) #[])
noncomputable abbrev o120 (P : Params) : Obj := (Obj.mk Value.none none (Data.fields #[]) #[])
noncomputable abbrev o121 (P : Params) : Obj := (Obj.mk (Value.type "tuple") none (Data.seq #[]) #[])
noncomputable abbrev o122 (P : Params) : Obj := (Obj.mk (Value.type "tuple") none (Data.seq #[]) #[])
noncomputable abbrev o123 (P : Params) : Obj := (Obj.mk Value.none none (Data.func (FuncData.mk (Str.ofString "keywords") (Str.ofString "keywords") pa125 (FuncBody.stmts bd125) sc125 0 [] Value.none Value.none Value.none Value.none none Value.none Value.none 0)) #[])
noncomputable abbrev o124 (P : Params) : Obj := (Obj.mk (Value.type "code") none (Data.fields #[(Value.str (Str.ofString "keywords") 346), (Value.str (Str.ofString "keywords") 347), (Value.str (Str.ofString "/claim/cut.py") 348), (Value.int 42 0), (Value.int 0 0), (Value.int 0 0), (Value.int 0 0), (Value.int 3 0), (Value.ref 119), (Value.bool true), (Value.int 181 0), (Value.ref 120), Value.none, (Value.ref 121), (Value.ref 122), (Value.ref 123), (Value.int 349 0), (Value.int 42 0), (Value.str (Str.ofString "/claim/cut.py") 350)]) #[])
noncomputable abbrev o125 (P : Params) : Obj := (Obj.mk (Value.type "function") none (Data.func (FuncData.mk (Str.ofString "keywords") (Str.ofString "keywords") pa125 (FuncBody.stmts bd125) sc125 3 [] Value.none Value.none Value.none (Value.str (Str.ofString "vectorcove.tokens") 305) none (Value.ref 124) Value.none 0)) #[])
noncomputable abbrev o126 (P : Params) : Obj := (Obj.mk (Value.type "tuple") none (Data.seq #[]) #[])
noncomputable abbrev o127 (P : Params) : Obj := (Obj.mk Value.none none (Data.fields #[]) #[])
noncomputable abbrev o128 (P : Params) : Obj := (Obj.mk (Value.type "tuple") none (Data.seq #[(Value.str (Str.ofString "char") 355)] 0) #[])
noncomputable abbrev o129 (P : Params) : Obj := (Obj.mk (Value.type "tuple") none (Data.seq #[]) #[])
noncomputable abbrev o130 (P : Params) : Obj := (Obj.mk Value.none none (Data.func (FuncData.mk (Str.ofString "is_letter") (Str.ofString "is_letter") pa132 (FuncBody.stmts bd132) sc132 0 [] Value.none Value.none Value.none Value.none none Value.none Value.none 0)) #[])
noncomputable abbrev o131 (P : Params) : Obj := (Obj.mk (Value.type "code") none (Data.fields #[(Value.str (Str.ofString "is_letter") 352), (Value.str (Str.ofString "is_letter") 353), (Value.str (Str.ofString "/claim/cut.py") 354), (Value.int 44 0), (Value.int 1 0), (Value.int 0 0), (Value.int 0 0), (Value.int 3 0), (Value.ref 126), (Value.bool true), (Value.int 181 0), (Value.ref 127), Value.none, (Value.ref 128), (Value.ref 129), (Value.ref 130), (Value.int 356 0), (Value.int 44 0), (Value.str (Str.ofString "/claim/cut.py") 357)]) #[])
noncomputable abbrev o132 (P : Params) : Obj := (Obj.mk (Value.type "function") none (Data.func (FuncData.mk (Str.ofString "is_letter") (Str.ofString "is_letter") pa132 (FuncBody.stmts bd132) sc132 3 [] Value.none Value.none Value.none (Value.str (Str.ofString "vectorcove.tokens") 305) none (Value.ref 131) Value.none 0)) #[])
noncomputable abbrev o133 (P : Params) : Obj := (Obj.mk (Value.type "tuple") none (Data.seq #[]) #[])
noncomputable abbrev o134 (P : Params) : Obj := (Obj.mk Value.none none (Data.fields #[]) #[])
noncomputable abbrev o135 (P : Params) : Obj := (Obj.mk (Value.type "tuple") none (Data.seq #[(Value.str (Str.ofString "char") 362)] 0) #[])
noncomputable abbrev o136 (P : Params) : Obj := (Obj.mk (Value.type "tuple") none (Data.seq #[]) #[])
noncomputable abbrev o137 (P : Params) : Obj := (Obj.mk Value.none none (Data.func (FuncData.mk (Str.ofString "is_digit") (Str.ofString "is_digit") pa139 (FuncBody.stmts bd139) sc139 0 [] Value.none Value.none Value.none Value.none none Value.none Value.none 0)) #[])
noncomputable abbrev o138 (P : Params) : Obj := (Obj.mk (Value.type "code") none (Data.fields #[(Value.str (Str.ofString "is_digit") 359), (Value.str (Str.ofString "is_digit") 360), (Value.str (Str.ofString "/claim/cut.py") 361), (Value.int 46 0), (Value.int 1 0), (Value.int 0 0), (Value.int 0 0), (Value.int 3 0), (Value.ref 133), (Value.bool true), (Value.int 181 0), (Value.ref 134), Value.none, (Value.ref 135), (Value.ref 136), (Value.ref 137), (Value.int 363 0), (Value.int 46 0), (Value.str (Str.ofString "/claim/cut.py") 364)]) #[])
noncomputable abbrev o139 (P : Params) : Obj := (Obj.mk (Value.type "function") none (Data.func (FuncData.mk (Str.ofString "is_digit") (Str.ofString "is_digit") pa139 (FuncBody.stmts bd139) sc139 3 [] Value.none Value.none Value.none (Value.str (Str.ofString "vectorcove.tokens") 305) none (Value.ref 138) Value.none 0)) #[])
noncomputable abbrev o140 (P : Params) : Obj := (Obj.mk (Value.type "tuple") none (Data.seq #[]) #[])
noncomputable abbrev o141 (P : Params) : Obj := (Obj.mk Value.none none (Data.fields #[]) #[])
noncomputable abbrev o142 (P : Params) : Obj := (Obj.mk (Value.type "tuple") none (Data.seq #[(Value.str (Str.ofString "char") 369)] 0) #[])
noncomputable abbrev o143 (P : Params) : Obj := (Obj.mk (Value.type "tuple") none (Data.seq #[]) #[])
noncomputable abbrev o144 (P : Params) : Obj := (Obj.mk Value.none none (Data.func (FuncData.mk (Str.ofString "is_name_char") (Str.ofString "is_name_char") pa146 (FuncBody.stmts bd146) sc146 0 [] Value.none Value.none Value.none Value.none none Value.none Value.none 0)) #[])
noncomputable abbrev o145 (P : Params) : Obj := (Obj.mk (Value.type "code") none (Data.fields #[(Value.str (Str.ofString "is_name_char") 366), (Value.str (Str.ofString "is_name_char") 367), (Value.str (Str.ofString "/claim/cut.py") 368), (Value.int 48 0), (Value.int 1 0), (Value.int 0 0), (Value.int 0 0), (Value.int 3 0), (Value.ref 140), (Value.bool true), (Value.int 181 0), (Value.ref 141), Value.none, (Value.ref 142), (Value.ref 143), (Value.ref 144), (Value.int 370 0), (Value.int 48 0), (Value.str (Str.ofString "/claim/cut.py") 371)]) #[])
noncomputable abbrev o146 (P : Params) : Obj := (Obj.mk (Value.type "function") none (Data.func (FuncData.mk (Str.ofString "is_name_char") (Str.ofString "is_name_char") pa146 (FuncBody.stmts bd146) sc146 3 [] Value.none Value.none Value.none (Value.str (Str.ofString "vectorcove.tokens") 305) none (Value.ref 145) Value.none 0)) #[])
noncomputable abbrev o147 (P : Params) : Obj := (Obj.mk (Value.type "tuple") none (Data.seq #[]) #[])
noncomputable abbrev o148 (P : Params) : Obj := (Obj.mk Value.none none (Data.fields #[]) #[])
noncomputable abbrev o149 (P : Params) : Obj := (Obj.mk (Value.type "tuple") none (Data.seq #[(Value.str (Str.ofString "char") 376)] 0) #[])
noncomputable abbrev o150 (P : Params) : Obj := (Obj.mk (Value.type "tuple") none (Data.seq #[]) #[])
noncomputable abbrev o151 (P : Params) : Obj := (Obj.mk Value.none none (Data.func (FuncData.mk (Str.ofString "hex_value") (Str.ofString "hex_value") pa153 (FuncBody.stmts bd153) sc153 0 [] Value.none Value.none Value.none Value.none none Value.none Value.none 0)) #[])
noncomputable abbrev o152 (P : Params) : Obj := (Obj.mk (Value.type "code") none (Data.fields #[(Value.str (Str.ofString "hex_value") 373), (Value.str (Str.ofString "hex_value") 374), (Value.str (Str.ofString "/claim/cut.py") 375), (Value.int 50 0), (Value.int 1 0), (Value.int 0 0), (Value.int 0 0), (Value.int 3 0), (Value.ref 147), (Value.bool true), (Value.int 181 0), (Value.ref 148), Value.none, (Value.ref 149), (Value.ref 150), (Value.ref 151), (Value.int 377 0), (Value.int 50 0), (Value.str (Str.ofString "/claim/cut.py") 378)]) #[])
noncomputable abbrev o153 (P : Params) : Obj := (Obj.mk (Value.type "function") none (Data.func (FuncData.mk (Str.ofString "hex_value") (Str.ofString "hex_value") pa153 (FuncBody.stmts bd153) sc153 3 [] Value.none Value.none Value.none (Value.str (Str.ofString "vectorcove.tokens") 305) none (Value.ref 152) Value.none 0)) #[])
noncomputable abbrev o154 (P : Params) : Obj := (Obj.mk (Value.type "tuple") none (Data.seq #[]) #[])
noncomputable abbrev o155 (P : Params) : Obj := (Obj.mk Value.none none (Data.fields #[]) #[])
noncomputable abbrev o156 (P : Params) : Obj := (Obj.mk (Value.type "tuple") none (Data.seq #[(Value.str (Str.ofString "char") 383), (Value.str (Str.ofString "place") 384)] 0) #[])
noncomputable abbrev o157 (P : Params) : Obj := (Obj.mk (Value.type "tuple") none (Data.seq #[]) #[])
noncomputable abbrev o158 (P : Params) : Obj := (Obj.mk Value.none none (Data.func (FuncData.mk (Str.ofString "simple_escape") (Str.ofString "simple_escape") pa160 (FuncBody.stmts bd160) sc160 0 [] Value.none Value.none Value.none Value.none none Value.none Value.none 0)) #[])
noncomputable abbrev o159 (P : Params) : Obj := (Obj.mk (Value.type "code") none (Data.fields #[(Value.str (Str.ofString "simple_escape") 380), (Value.str (Str.ofString "simple_escape") 381), (Value.str (Str.ofString "/claim/cut.py") 382), (Value.int 54 0), (Value.int 1 0), (Value.int 0 0), (Value.int 0 0), (Value.int 3 0), (Value.ref 154), (Value.bool true), (Value.int 181 0), (Value.ref 155), Value.none, (Value.ref 156), (Value.ref 157), (Value.ref 158), (Value.int 385 0), (Value.int 54 0), (Value.str (Str.ofString "/claim/cut.py") 386)]) #[])
noncomputable abbrev o160 (P : Params) : Obj := (Obj.mk (Value.type "function") none (Data.func (FuncData.mk (Str.ofString "simple_escape") (Str.ofString "simple_escape") pa160 (FuncBody.stmts bd160) sc160 3 [] Value.none Value.none Value.none (Value.str (Str.ofString "vectorcove.tokens") 305) none (Value.ref 159) Value.none 0)) #[])
noncomputable abbrev o161 (P : Params) : Obj := (Obj.mk (Value.type "tuple") none (Data.seq #[]) #[])
noncomputable abbrev o162 (P : Params) : Obj := (Obj.mk Value.none none (Data.fields #[]) #[])
noncomputable abbrev o163 (P : Params) : Obj := (Obj.mk (Value.type "tuple") none (Data.seq #[(Value.str (Str.ofString "text") 391), (Value.str (Str.ofString "value") 392), (Value.str (Str.ofString "digit") 393)] 0) #[])
noncomputable abbrev o164 (P : Params) : Obj := (Obj.mk (Value.type "tuple") none (Data.seq #[]) #[])
noncomputable abbrev o165 (P : Params) : Obj := (Obj.mk Value.none none (Data.func (FuncData.mk (Str.ofString "digits_value") (Str.ofString "digits_value") pa167 (FuncBody.stmts bd167) sc167 0 [] Value.none Value.none Value.none Value.none none Value.none Value.none 0)) #[])
noncomputable abbrev o166 (P : Params) : Obj := (Obj.mk (Value.type "code") none (Data.fields #[(Value.str (Str.ofString "digits_value") 388), (Value.str (Str.ofString "digits_value") 389), (Value.str (Str.ofString "/claim/cut.py") 390), (Value.int 61 0), (Value.int 1 0), (Value.int 0 0), (Value.int 0 0), (Value.int 3 0), (Value.ref 161), (Value.bool true), (Value.int 181 0), (Value.ref 162), Value.none, (Value.ref 163), (Value.ref 164), (Value.ref 165), (Value.int 394 0), (Value.int 61 0), (Value.str (Str.ofString "/claim/cut.py") 395)]) #[])
noncomputable abbrev o167 (P : Params) : Obj := (Obj.mk (Value.type "function") none (Data.func (FuncData.mk (Str.ofString "digits_value") (Str.ofString "digits_value") pa167 (FuncBody.stmts bd167) sc167 3 [] Value.none Value.none Value.none (Value.str (Str.ofString "vectorcove.tokens") 305) none (Value.ref 166) Value.none 0)) #[])
noncomputable abbrev o3v4 (P : Params) : Obj := (Obj.mk (Value.type "dict") none (Data.dict #[(DictEntry.mk (PyData.keyHash P (Str.ofString "__name__")) (Value.str (Str.ofString "__name__") 165) (Value.str (Str.ofString "vectorcove.tokens") 305)), (DictEntry.mk (PyData.keyHash P (Str.ofString "__doc__")) (Value.str (Str.ofString "__doc__") 166) Value.none), (DictEntry.mk (PyData.keyHash P (Str.ofString "__package__")) (Value.str (Str.ofString "__package__") 167) Value.none), (DictEntry.mk (PyData.keyHash P (Str.ofString "__loader__")) (Value.str (Str.ofString "__loader__") 168) (Value.builtin "__main__.__loader__#opaque")), (DictEntry.mk (PyData.keyHash P (Str.ofString "__spec__")) (Value.str (Str.ofString "__spec__") 169) Value.none), (DictEntry.mk (PyData.keyHash P (Str.ofString "__annotations__")) (Value.str (Str.ofString "__annotations__") 170) (Value.ref 6)), (DictEntry.mk (PyData.keyHash P (Str.ofString "__builtins__")) (Value.str (Str.ofString "__builtins__") 171) (Value.ref 4)), (DictEntry.mk (PyData.keyHash P (Str.ofString "__file__")) (Value.str (Str.ofString "__file__") 173) (Value.str (Str.ofString "/claim/cut.py") 172)), (DictEntry.mk (PyData.keyHash P (Str.ofString "__cached__")) (Value.str (Str.ofString "__cached__") 174) Value.none), (DictEntry.mk (PyData.keyHash P (Str.ofString "_wall")) (Value.str (Str.ofString "_wall") 193) (Value.ref 21)), (DictEntry.mk (PyData.keyHash P (Str.ofString "CoveError")) (Value.str (Str.ofString "CoveError") 215) (Value.ref 31)), (DictEntry.mk (PyData.keyHash P (Str.ofString "ReadError")) (Value.str (Str.ofString "ReadError") 242) (Value.ref 51)), (DictEntry.mk (PyData.keyHash P (Str.ofString "Vector")) (Value.str (Str.ofString "Vector") 286) (Value.ref 78)), (DictEntry.mk (PyData.keyHash P (Str.ofString "whole")) (Value.str (Str.ofString "whole") 293) (Value.ref 89)), (DictEntry.mk (PyData.keyHash P (Str.ofString "number")) (Value.str (Str.ofString "number") 304) (Value.ref 97)), (DictEntry.mk (PyData.keyHash P (Str.ofString "MOST_EXPONENT")) (Value.str (Str.ofString "MOST_EXPONENT") 308) (Value.int 4096 307)), (DictEntry.mk (PyData.keyHash P (Str.ofString "MOST_INTEGER")) (Value.str (Str.ofString "MOST_INTEGER") 310) (Value.int 2147483647 309)), (DictEntry.mk (PyData.keyHash P (Str.ofString "Token")) (Value.str (Str.ofString "Token") 345) (Value.ref 114)), (DictEntry.mk (PyData.keyHash P (Str.ofString "keywords")) (Value.str (Str.ofString "keywords") 351) (Value.ref 125)), (DictEntry.mk (PyData.keyHash P (Str.ofString "is_letter")) (Value.str (Str.ofString "is_letter") 358) (Value.ref 132)), (DictEntry.mk (PyData.keyHash P (Str.ofString "is_digit")) (Value.str (Str.ofString "is_digit") 365) (Value.ref 139)), (DictEntry.mk (PyData.keyHash P (Str.ofString "is_name_char")) (Value.str (Str.ofString "is_name_char") 372) (Value.ref 146)), (DictEntry.mk (PyData.keyHash P (Str.ofString "hex_value")) (Value.str (Str.ofString "hex_value") 379) (Value.ref 153)), (DictEntry.mk (PyData.keyHash P (Str.ofString "simple_escape")) (Value.str (Str.ofString "simple_escape") 387) (Value.ref 160)), (DictEntry.mk (PyData.keyHash P (Str.ofString "digits_value")) (Value.str (Str.ofString "digits_value") 396) (Value.ref 167)), (DictEntry.mk (PyData.keyHash P (Str.ofString "Lexer")) (Value.str (Str.ofString "Lexer") 605) (Value.ref 297))] 26) #[])
noncomputable abbrev o12v4 (P : Params) : Obj := (Obj.mk Value.none none (Data.fields #[(Value.int 1 0), (Value.int 0 0), (Value.ref 20), (Value.int 5 0), (Value.int 0 0), (Value.ref 27), (Value.int 7 0), (Value.int 0 0), (Value.ref 40), (Value.int 13 0), (Value.int 0 0), (Value.ref 59), (Value.int 24 0), (Value.int 0 0), (Value.ref 88), (Value.int 26 0), (Value.int 0 0), (Value.ref 96), (Value.int 35 0), (Value.int 0 0), (Value.ref 103), (Value.int 42 0), (Value.int 0 0), (Value.ref 124), (Value.int 44 0), (Value.int 0 0), (Value.ref 131), (Value.int 46 0), (Value.int 0 0), (Value.ref 138), (Value.int 48 0), (Value.int 0 0), (Value.ref 145), (Value.int 50 0), (Value.int 0 0), (Value.ref 152), (Value.int 54 0), (Value.int 0 0), (Value.ref 159), (Value.int 61 0), (Value.int 0 0), (Value.ref 166), (Value.int 66 0), (Value.int 0 0), (Value.ref 173)]) #[])
noncomputable abbrev o168 (P : Params) : Obj := (Obj.mk (Value.type "tuple") none (Data.seq #[]) #[])
noncomputable abbrev o169 (P : Params) : Obj := (Obj.mk (Value.type "builtin_function_or_method") none (Data.fields #[(Value.builtin "type.__prepare__"), (Value.type "type")]) #[])
noncomputable abbrev o170 (P : Params) : Obj := (Obj.mk (Value.type "dict") none (Data.dict #[(DictEntry.mk (PyData.keyHash P (Str.ofString "__module__")) (Value.str (Str.ofString "__module__") 404) (Value.str (Str.ofString "vectorcove.tokens") 305)), (DictEntry.mk (PyData.keyHash P (Str.ofString "__qualname__")) (Value.str (Str.ofString "__qualname__") 406) (Value.str (Str.ofString "Lexer") 405)), (DictEntry.mk (PyData.keyHash P (Str.ofString "__firstlineno__")) (Value.str (Str.ofString "__firstlineno__") 408) (Value.int 66 407)), (DictEntry.mk (PyData.keyHash P (Str.ofString "__init__")) (Value.str (Str.ofString "__init__") 418) (Value.ref 182)), (DictEntry.mk (PyData.keyHash P (Str.ofString "char")) (Value.str (Str.ofString "char") 426) (Value.ref 189)), (DictEntry.mk (PyData.keyHash P (Str.ofString "token")) (Value.str (Str.ofString "token") 437) (Value.ref 196)), (DictEntry.mk (PyData.keyHash P (Str.ofString "next_token")) (Value.str (Str.ofString "next_token") 448) (Value.ref 203)), (DictEntry.mk (PyData.keyHash P (Str.ofString "skip")) (Value.str (Str.ofString "skip") 456) (Value.ref 210)), (DictEntry.mk (PyData.keyHash P (Str.ofString "word")) (Value.str (Str.ofString "word") 466) (Value.ref 217)), (DictEntry.mk (PyData.keyHash P (Str.ofString "percent")) (Value.str (Str.ofString "percent") 475) (Value.ref 224)), (DictEntry.mk (PyData.keyHash P (Str.ofString "operator")) (Value.str (Str.ofString "operator") 484) (Value.ref 231)), (DictEntry.mk (PyData.keyHash P (Str.ofString "digits_end")) (Value.str (Str.ofString "digits_end") 492) (Value.ref 238)), (DictEntry.mk (PyData.keyHash P (Str.ofString "numeral")) (Value.str (Str.ofString "numeral") 506) (Value.ref 245)), (DictEntry.mk (PyData.keyHash P (Str.ofString "exponent")) (Value.str (Str.ofString "exponent") 518) (Value.ref 252)), (DictEntry.mk (PyData.keyHash P (Str.ofString "hexadecimal")) (Value.str (Str.ofString "hexadecimal") 528) (Value.ref 259)), (DictEntry.mk (PyData.keyHash P (Str.ofString "number_token")) (Value.str (Str.ofString "number_token") 539) (Value.ref 266)), (DictEntry.mk (PyData.keyHash P (Str.ofString "quoted")) (Value.str (Str.ofString "quoted") 551) (Value.ref 273)), (DictEntry.mk (PyData.keyHash P (Str.ofString "escape")) (Value.str (Str.ofString "escape") 564) (Value.ref 280)), (DictEntry.mk (PyData.keyHash P (Str.ofString "coded")) (Value.str (Str.ofString "coded") 579) (Value.ref 287)), (DictEntry.mk (PyData.keyHash P (Str.ofString "raw_string")) (Value.str (Str.ofString "raw_string") 593) (Value.ref 294)), (DictEntry.mk (PyData.keyHash P (Str.ofString "__static_attributes__")) (Value.str (Str.ofString "__static_attributes__") 598) (Value.ref 295))] 21) #[])
noncomputable abbrev o171 (P : Params) : Obj := (Obj.mk (Value.type "tuple") none (Data.seq #[]) #[])
noncomputable abbrev o172 (P : Params) : Obj := (Obj.mk Value.none none (Data.fields #[(Value.int 68 0), (Value.int 4 0), (Value.ref 181), (Value.int 74 0), (Value.int 4 0), (Value.ref 188), (Value.int 77 0), (Value.int 4 0), (Value.ref 195), (Value.int 81 0), (Value.int 4 0), (Value.ref 202), (Value.int 105 0), (Value.int 4 0), (Value.ref 209), (Value.int 118 0), (Value.int 4 0), (Value.ref 216), (Value.int 127 0), (Value.int 4 0), (Value.ref 223), (Value.int 135 0), (Value.int 4 0), (Value.ref 230), (Value.int 147 0), (Value.int 4 0), (Value.ref 237), (Value.int 152 0), (Value.int 4 0), (Value.ref 244), (Value.int 171 0), (Value.int 4 0), (Value.ref 251), (Value.int 183 0), (Value.int 4 0), (Value.ref 258), (Value.int 193 0), (Value.int 4 0), (Value.ref 265), (Value.int 202 0), (Value.int 4 0), (Value.ref 272), (Value.int 219 0), (Value.int 4 0), (Value.ref 279), (Value.int 242 0), (Value.int 4 0), (Value.ref 286), (Value.int 256 0), (Value.int 4 0), (Value.ref 293)]) #[])
noncomputable abbrev o173 (P : Params) : Obj := (Obj.mk (Value.type "code") none (Data.fields #[(Value.str (Str.ofString "Lexer") 399), (Value.str (Str.ofString "Lexer") 400), (Value.str (Str.ofString "/claim/cut.py") 401), (Value.int 66 0), (Value.int 0 0), (Value.int 0 0), (Value.int 0 0), (Value.int 0 0), (Value.ref 171), (Value.bool false), (Value.int 181 0), (Value.ref 172), Value.none, Value.none, Value.none, Value.none, (Value.int 402 0), (Value.int 66 0), (Value.str (Str.ofString "/claim/cut.py") 403)]) #[])
noncomputable abbrev o174 (P : Params) : Obj := (Obj.mk (Value.type "frame") none Data.plain #[(some (Value.ref 173)), (some (Value.ref 3)), (some (Value.ref 170)), none, (some (Value.str (Str.ofString "vectorcove.tokens") 305)), none, (some (Value.ref 0))])
noncomputable abbrev o175 (P : Params) : Obj := (Obj.mk (Value.type "tuple") none (Data.seq #[(Value.int 0 409)] 0) #[])
noncomputable abbrev o176 (P : Params) : Obj := (Obj.mk (Value.type "tuple") none (Data.seq #[]) #[])
noncomputable abbrev o177 (P : Params) : Obj := (Obj.mk Value.none none (Data.fields #[]) #[])
noncomputable abbrev o178 (P : Params) : Obj := (Obj.mk (Value.type "tuple") none (Data.seq #[(Value.str (Str.ofString "self") 413), (Value.str (Str.ofString "text") 414), (Value.str (Str.ofString "at") 415)] 0) #[])
noncomputable abbrev o179 (P : Params) : Obj := (Obj.mk (Value.type "tuple") none (Data.seq #[]) #[])
noncomputable abbrev o180 (P : Params) : Obj := (Obj.mk Value.none none (Data.func (FuncData.mk (Str.ofString "__init__") (Str.ofString "Lexer.__init__") pa182 (FuncBody.stmts bd182) sc182 0 [] Value.none Value.none Value.none Value.none none Value.none Value.none 0)) #[])
noncomputable abbrev o181 (P : Params) : Obj := (Obj.mk (Value.type "code") none (Data.fields #[(Value.str (Str.ofString "__init__") 410), (Value.str (Str.ofString "Lexer.__init__") 411), (Value.str (Str.ofString "/claim/cut.py") 412), (Value.int 68 0), (Value.int 3 0), (Value.int 0 0), (Value.int 0 0), (Value.int 3 0), (Value.ref 176), (Value.bool true), (Value.int 181 0), (Value.ref 177), Value.none, (Value.ref 178), (Value.ref 179), (Value.ref 180), (Value.int 416 0), (Value.int 68 0), (Value.str (Str.ofString "/claim/cut.py") 417)]) #[])
noncomputable abbrev o182 (P : Params) : Obj := (Obj.mk (Value.type "function") none (Data.func (FuncData.mk (Str.ofString "__init__") (Str.ofString "Lexer.__init__") pa182 (FuncBody.stmts bd182) sc182 3 [] (Value.ref 175) Value.none Value.none (Value.str (Str.ofString "vectorcove.tokens") 305) none (Value.ref 181) Value.none 0)) #[])
noncomputable abbrev o183 (P : Params) : Obj := (Obj.mk (Value.type "tuple") none (Data.seq #[]) #[])
noncomputable abbrev o184 (P : Params) : Obj := (Obj.mk Value.none none (Data.fields #[]) #[])
noncomputable abbrev o185 (P : Params) : Obj := (Obj.mk (Value.type "tuple") none (Data.seq #[(Value.str (Str.ofString "self") 422), (Value.str (Str.ofString "index") 423)] 0) #[])
noncomputable abbrev o186 (P : Params) : Obj := (Obj.mk (Value.type "tuple") none (Data.seq #[]) #[])
noncomputable abbrev o187 (P : Params) : Obj := (Obj.mk Value.none none (Data.func (FuncData.mk (Str.ofString "char") (Str.ofString "Lexer.char") pa189 (FuncBody.stmts bd189) sc189 0 [] Value.none Value.none Value.none Value.none none Value.none Value.none 0)) #[])
noncomputable abbrev o188 (P : Params) : Obj := (Obj.mk (Value.type "code") none (Data.fields #[(Value.str (Str.ofString "char") 419), (Value.str (Str.ofString "Lexer.char") 420), (Value.str (Str.ofString "/claim/cut.py") 421), (Value.int 74 0), (Value.int 2 0), (Value.int 0 0), (Value.int 0 0), (Value.int 3 0), (Value.ref 183), (Value.bool true), (Value.int 181 0), (Value.ref 184), Value.none, (Value.ref 185), (Value.ref 186), (Value.ref 187), (Value.int 424 0), (Value.int 74 0), (Value.str (Str.ofString "/claim/cut.py") 425)]) #[])
noncomputable abbrev o189 (P : Params) : Obj := (Obj.mk (Value.type "function") none (Data.func (FuncData.mk (Str.ofString "char") (Str.ofString "Lexer.char") pa189 (FuncBody.stmts bd189) sc189 3 [] Value.none Value.none Value.none (Value.str (Str.ofString "vectorcove.tokens") 305) none (Value.ref 188) Value.none 0)) #[])
noncomputable abbrev o190 (P : Params) : Obj := (Obj.mk (Value.type "tuple") none (Data.seq #[]) #[])
noncomputable abbrev o191 (P : Params) : Obj := (Obj.mk Value.none none (Data.fields #[]) #[])
noncomputable abbrev o192 (P : Params) : Obj := (Obj.mk (Value.type "tuple") none (Data.seq #[(Value.str (Str.ofString "self") 430), (Value.str (Str.ofString "kind") 431), (Value.str (Str.ofString "value") 432), (Value.str (Str.ofString "at") 433), (Value.str (Str.ofString "end") 434)] 0) #[])
noncomputable abbrev o193 (P : Params) : Obj := (Obj.mk (Value.type "tuple") none (Data.seq #[]) #[])
noncomputable abbrev o194 (P : Params) : Obj := (Obj.mk Value.none none (Data.func (FuncData.mk (Str.ofString "token") (Str.ofString "Lexer.token") pa196 (FuncBody.stmts bd196) sc196 0 [] Value.none Value.none Value.none Value.none none Value.none Value.none 0)) #[])
noncomputable abbrev o195 (P : Params) : Obj := (Obj.mk (Value.type "code") none (Data.fields #[(Value.str (Str.ofString "token") 427), (Value.str (Str.ofString "Lexer.token") 428), (Value.str (Str.ofString "/claim/cut.py") 429), (Value.int 77 0), (Value.int 5 0), (Value.int 0 0), (Value.int 0 0), (Value.int 3 0), (Value.ref 190), (Value.bool true), (Value.int 181 0), (Value.ref 191), Value.none, (Value.ref 192), (Value.ref 193), (Value.ref 194), (Value.int 435 0), (Value.int 77 0), (Value.str (Str.ofString "/claim/cut.py") 436)]) #[])
noncomputable abbrev o196 (P : Params) : Obj := (Obj.mk (Value.type "function") none (Data.func (FuncData.mk (Str.ofString "token") (Str.ofString "Lexer.token") pa196 (FuncBody.stmts bd196) sc196 3 [] Value.none Value.none Value.none (Value.str (Str.ofString "vectorcove.tokens") 305) none (Value.ref 195) Value.none 0)) #[])
noncomputable abbrev o197 (P : Params) : Obj := (Obj.mk (Value.type "tuple") none (Data.seq #[]) #[])
noncomputable abbrev o198 (P : Params) : Obj := (Obj.mk Value.none none (Data.fields #[]) #[])
noncomputable abbrev o199 (P : Params) : Obj := (Obj.mk (Value.type "tuple") none (Data.seq #[(Value.str (Str.ofString "self") 441), (Value.str (Str.ofString "at") 442), (Value.str (Str.ofString "char") 443), (Value.str (Str.ofString "value") 444), (Value.str (Str.ofString "end") 445)] 0) #[])
noncomputable abbrev o200 (P : Params) : Obj := (Obj.mk (Value.type "tuple") none (Data.seq #[]) #[])
noncomputable abbrev o201 (P : Params) : Obj := (Obj.mk Value.none none (Data.func (FuncData.mk (Str.ofString "next_token") (Str.ofString "Lexer.next_token") pa203 (FuncBody.stmts bd203) sc203 0 [] Value.none Value.none Value.none Value.none none Value.none Value.none 0)) #[])
noncomputable abbrev o202 (P : Params) : Obj := (Obj.mk (Value.type "code") none (Data.fields #[(Value.str (Str.ofString "next_token") 438), (Value.str (Str.ofString "Lexer.next_token") 439), (Value.str (Str.ofString "/claim/cut.py") 440), (Value.int 81 0), (Value.int 1 0), (Value.int 0 0), (Value.int 0 0), (Value.int 3 0), (Value.ref 197), (Value.bool true), (Value.int 181 0), (Value.ref 198), Value.none, (Value.ref 199), (Value.ref 200), (Value.ref 201), (Value.int 446 0), (Value.int 81 0), (Value.str (Str.ofString "/claim/cut.py") 447)]) #[])
noncomputable abbrev o203 (P : Params) : Obj := (Obj.mk (Value.type "function") none (Data.func (FuncData.mk (Str.ofString "next_token") (Str.ofString "Lexer.next_token") pa203 (FuncBody.stmts bd203) sc203 3 [] Value.none Value.none Value.none (Value.str (Str.ofString "vectorcove.tokens") 305) none (Value.ref 202) Value.none 0)) #[])
noncomputable abbrev o204 (P : Params) : Obj := (Obj.mk (Value.type "tuple") none (Data.seq #[]) #[])
noncomputable abbrev o205 (P : Params) : Obj := (Obj.mk Value.none none (Data.fields #[]) #[])
noncomputable abbrev o206 (P : Params) : Obj := (Obj.mk (Value.type "tuple") none (Data.seq #[(Value.str (Str.ofString "self") 452), (Value.str (Str.ofString "char") 453)] 0) #[])
noncomputable abbrev o207 (P : Params) : Obj := (Obj.mk (Value.type "tuple") none (Data.seq #[]) #[])
noncomputable abbrev o208 (P : Params) : Obj := (Obj.mk Value.none none (Data.func (FuncData.mk (Str.ofString "skip") (Str.ofString "Lexer.skip") pa210 (FuncBody.stmts bd210) sc210 0 [] Value.none Value.none Value.none Value.none none Value.none Value.none 0)) #[])
noncomputable abbrev o209 (P : Params) : Obj := (Obj.mk (Value.type "code") none (Data.fields #[(Value.str (Str.ofString "skip") 449), (Value.str (Str.ofString "Lexer.skip") 450), (Value.str (Str.ofString "/claim/cut.py") 451), (Value.int 105 0), (Value.int 1 0), (Value.int 0 0), (Value.int 0 0), (Value.int 3 0), (Value.ref 204), (Value.bool true), (Value.int 181 0), (Value.ref 205), Value.none, (Value.ref 206), (Value.ref 207), (Value.ref 208), (Value.int 454 0), (Value.int 105 0), (Value.str (Str.ofString "/claim/cut.py") 455)]) #[])
noncomputable abbrev o210 (P : Params) : Obj := (Obj.mk (Value.type "function") none (Data.func (FuncData.mk (Str.ofString "skip") (Str.ofString "Lexer.skip") pa210 (FuncBody.stmts bd210) sc210 3 [] Value.none Value.none Value.none (Value.str (Str.ofString "vectorcove.tokens") 305) none (Value.ref 209) Value.none 0)) #[])
noncomputable abbrev o211 (P : Params) : Obj := (Obj.mk (Value.type "tuple") none (Data.seq #[]) #[])
noncomputable abbrev o212 (P : Params) : Obj := (Obj.mk Value.none none (Data.fields #[]) #[])
noncomputable abbrev o213 (P : Params) : Obj := (Obj.mk (Value.type "tuple") none (Data.seq #[(Value.str (Str.ofString "self") 460), (Value.str (Str.ofString "at") 461), (Value.str (Str.ofString "end") 462), (Value.str (Str.ofString "text") 463)] 0) #[])
noncomputable abbrev o214 (P : Params) : Obj := (Obj.mk (Value.type "tuple") none (Data.seq #[]) #[])
noncomputable abbrev o215 (P : Params) : Obj := (Obj.mk Value.none none (Data.func (FuncData.mk (Str.ofString "word") (Str.ofString "Lexer.word") pa217 (FuncBody.stmts bd217) sc217 0 [] Value.none Value.none Value.none Value.none none Value.none Value.none 0)) #[])
noncomputable abbrev o216 (P : Params) : Obj := (Obj.mk (Value.type "code") none (Data.fields #[(Value.str (Str.ofString "word") 457), (Value.str (Str.ofString "Lexer.word") 458), (Value.str (Str.ofString "/claim/cut.py") 459), (Value.int 118 0), (Value.int 2 0), (Value.int 0 0), (Value.int 0 0), (Value.int 3 0), (Value.ref 211), (Value.bool true), (Value.int 181 0), (Value.ref 212), Value.none, (Value.ref 213), (Value.ref 214), (Value.ref 215), (Value.int 464 0), (Value.int 118 0), (Value.str (Str.ofString "/claim/cut.py") 465)]) #[])
noncomputable abbrev o217 (P : Params) : Obj := (Obj.mk (Value.type "function") none (Data.func (FuncData.mk (Str.ofString "word") (Str.ofString "Lexer.word") pa217 (FuncBody.stmts bd217) sc217 3 [] Value.none Value.none Value.none (Value.str (Str.ofString "vectorcove.tokens") 305) none (Value.ref 216) Value.none 0)) #[])
noncomputable abbrev o218 (P : Params) : Obj := (Obj.mk (Value.type "tuple") none (Data.seq #[]) #[])
noncomputable abbrev o219 (P : Params) : Obj := (Obj.mk Value.none none (Data.fields #[]) #[])
noncomputable abbrev o220 (P : Params) : Obj := (Obj.mk (Value.type "tuple") none (Data.seq #[(Value.str (Str.ofString "self") 470), (Value.str (Str.ofString "at") 471), (Value.str (Str.ofString "end") 472)] 0) #[])
noncomputable abbrev o221 (P : Params) : Obj := (Obj.mk (Value.type "tuple") none (Data.seq #[]) #[])
noncomputable abbrev o222 (P : Params) : Obj := (Obj.mk Value.none none (Data.func (FuncData.mk (Str.ofString "percent") (Str.ofString "Lexer.percent") pa224 (FuncBody.stmts bd224) sc224 0 [] Value.none Value.none Value.none Value.none none Value.none Value.none 0)) #[])
noncomputable abbrev o223 (P : Params) : Obj := (Obj.mk (Value.type "code") none (Data.fields #[(Value.str (Str.ofString "percent") 467), (Value.str (Str.ofString "Lexer.percent") 468), (Value.str (Str.ofString "/claim/cut.py") 469), (Value.int 127 0), (Value.int 2 0), (Value.int 0 0), (Value.int 0 0), (Value.int 3 0), (Value.ref 218), (Value.bool true), (Value.int 181 0), (Value.ref 219), Value.none, (Value.ref 220), (Value.ref 221), (Value.ref 222), (Value.int 473 0), (Value.int 127 0), (Value.str (Str.ofString "/claim/cut.py") 474)]) #[])
noncomputable abbrev o224 (P : Params) : Obj := (Obj.mk (Value.type "function") none (Data.func (FuncData.mk (Str.ofString "percent") (Str.ofString "Lexer.percent") pa224 (FuncBody.stmts bd224) sc224 3 [] Value.none Value.none Value.none (Value.str (Str.ofString "vectorcove.tokens") 305) none (Value.ref 223) Value.none 0)) #[])
noncomputable abbrev o225 (P : Params) : Obj := (Obj.mk (Value.type "tuple") none (Data.seq #[]) #[])
noncomputable abbrev o226 (P : Params) : Obj := (Obj.mk Value.none none (Data.fields #[]) #[])
noncomputable abbrev o227 (P : Params) : Obj := (Obj.mk (Value.type "tuple") none (Data.seq #[(Value.str (Str.ofString "self") 479), (Value.str (Str.ofString "at") 480), (Value.str (Str.ofString "text") 481)] 0) #[])
noncomputable abbrev o228 (P : Params) : Obj := (Obj.mk (Value.type "tuple") none (Data.seq #[]) #[])
noncomputable abbrev o229 (P : Params) : Obj := (Obj.mk Value.none none (Data.func (FuncData.mk (Str.ofString "operator") (Str.ofString "Lexer.operator") pa231 (FuncBody.stmts bd231) sc231 0 [] Value.none Value.none Value.none Value.none none Value.none Value.none 0)) #[])
noncomputable abbrev o230 (P : Params) : Obj := (Obj.mk (Value.type "code") none (Data.fields #[(Value.str (Str.ofString "operator") 476), (Value.str (Str.ofString "Lexer.operator") 477), (Value.str (Str.ofString "/claim/cut.py") 478), (Value.int 135 0), (Value.int 2 0), (Value.int 0 0), (Value.int 0 0), (Value.int 3 0), (Value.ref 225), (Value.bool true), (Value.int 181 0), (Value.ref 226), Value.none, (Value.ref 227), (Value.ref 228), (Value.ref 229), (Value.int 482 0), (Value.int 135 0), (Value.str (Str.ofString "/claim/cut.py") 483)]) #[])
noncomputable abbrev o231 (P : Params) : Obj := (Obj.mk (Value.type "function") none (Data.func (FuncData.mk (Str.ofString "operator") (Str.ofString "Lexer.operator") pa231 (FuncBody.stmts bd231) sc231 3 [] Value.none Value.none Value.none (Value.str (Str.ofString "vectorcove.tokens") 305) none (Value.ref 230) Value.none 0)) #[])
noncomputable abbrev o232 (P : Params) : Obj := (Obj.mk (Value.type "tuple") none (Data.seq #[]) #[])
noncomputable abbrev o233 (P : Params) : Obj := (Obj.mk Value.none none (Data.fields #[]) #[])
noncomputable abbrev o234 (P : Params) : Obj := (Obj.mk (Value.type "tuple") none (Data.seq #[(Value.str (Str.ofString "self") 488), (Value.str (Str.ofString "index") 489)] 0) #[])
noncomputable abbrev o235 (P : Params) : Obj := (Obj.mk (Value.type "tuple") none (Data.seq #[]) #[])
noncomputable abbrev o236 (P : Params) : Obj := (Obj.mk Value.none none (Data.func (FuncData.mk (Str.ofString "digits_end") (Str.ofString "Lexer.digits_end") pa238 (FuncBody.stmts bd238) sc238 0 [] Value.none Value.none Value.none Value.none none Value.none Value.none 0)) #[])
noncomputable abbrev o237 (P : Params) : Obj := (Obj.mk (Value.type "code") none (Data.fields #[(Value.str (Str.ofString "digits_end") 485), (Value.str (Str.ofString "Lexer.digits_end") 486), (Value.str (Str.ofString "/claim/cut.py") 487), (Value.int 147 0), (Value.int 2 0), (Value.int 0 0), (Value.int 0 0), (Value.int 3 0), (Value.ref 232), (Value.bool true), (Value.int 181 0), (Value.ref 233), Value.none, (Value.ref 234), (Value.ref 235), (Value.ref 236), (Value.int 490 0), (Value.int 147 0), (Value.str (Str.ofString "/claim/cut.py") 491)]) #[])
noncomputable abbrev o238 (P : Params) : Obj := (Obj.mk (Value.type "function") none (Data.func (FuncData.mk (Str.ofString "digits_end") (Str.ofString "Lexer.digits_end") pa238 (FuncBody.stmts bd238) sc238 3 [] Value.none Value.none Value.none (Value.str (Str.ofString "vectorcove.tokens") 305) none (Value.ref 237) Value.none 0)) #[])
noncomputable abbrev o239 (P : Params) : Obj := (Obj.mk (Value.type "tuple") none (Data.seq #[]) #[])
noncomputable abbrev o240 (P : Params) : Obj := (Obj.mk Value.none none (Data.fields #[]) #[])
noncomputable abbrev o241 (P : Params) : Obj := (Obj.mk (Value.type "tuple") none (Data.seq #[(Value.str (Str.ofString "self") 496), (Value.str (Str.ofString "at") 497), (Value.str (Str.ofString "end") 498), (Value.str (Str.ofString "digits") 499), (Value.str (Str.ofString "scale") 500), (Value.str (Str.ofString "begin") 501), (Value.str (Str.ofString "power") 502), (Value.str (Str.ofString "top") 503)] 0) #[])
noncomputable abbrev o242 (P : Params) : Obj := (Obj.mk (Value.type "tuple") none (Data.seq #[]) #[])
noncomputable abbrev o243 (P : Params) : Obj := (Obj.mk Value.none none (Data.func (FuncData.mk (Str.ofString "numeral") (Str.ofString "Lexer.numeral") pa245 (FuncBody.stmts bd245) sc245 0 [] Value.none Value.none Value.none Value.none none Value.none Value.none 0)) #[])
noncomputable abbrev o244 (P : Params) : Obj := (Obj.mk (Value.type "code") none (Data.fields #[(Value.str (Str.ofString "numeral") 493), (Value.str (Str.ofString "Lexer.numeral") 494), (Value.str (Str.ofString "/claim/cut.py") 495), (Value.int 152 0), (Value.int 2 0), (Value.int 0 0), (Value.int 0 0), (Value.int 3 0), (Value.ref 239), (Value.bool true), (Value.int 181 0), (Value.ref 240), Value.none, (Value.ref 241), (Value.ref 242), (Value.ref 243), (Value.int 504 0), (Value.int 152 0), (Value.str (Str.ofString "/claim/cut.py") 505)]) #[])
noncomputable abbrev o245 (P : Params) : Obj := (Obj.mk (Value.type "function") none (Data.func (FuncData.mk (Str.ofString "numeral") (Str.ofString "Lexer.numeral") pa245 (FuncBody.stmts bd245) sc245 3 [] Value.none Value.none Value.none (Value.str (Str.ofString "vectorcove.tokens") 305) none (Value.ref 244) Value.none 0)) #[])
noncomputable abbrev o246 (P : Params) : Obj := (Obj.mk (Value.type "tuple") none (Data.seq #[]) #[])
noncomputable abbrev o247 (P : Params) : Obj := (Obj.mk Value.none none (Data.fields #[]) #[])
noncomputable abbrev o248 (P : Params) : Obj := (Obj.mk (Value.type "tuple") none (Data.seq #[(Value.str (Str.ofString "self") 510), (Value.str (Str.ofString "at") 511), (Value.str (Str.ofString "index") 512), (Value.str (Str.ofString "minus") 513), (Value.str (Str.ofString "end") 514), (Value.str (Str.ofString "digits") 515)] 0) #[])
noncomputable abbrev o249 (P : Params) : Obj := (Obj.mk (Value.type "tuple") none (Data.seq #[]) #[])
noncomputable abbrev o250 (P : Params) : Obj := (Obj.mk Value.none none (Data.func (FuncData.mk (Str.ofString "exponent") (Str.ofString "Lexer.exponent") pa252 (FuncBody.stmts bd252) sc252 0 [] Value.none Value.none Value.none Value.none none Value.none Value.none 0)) #[])
noncomputable abbrev o251 (P : Params) : Obj := (Obj.mk (Value.type "code") none (Data.fields #[(Value.str (Str.ofString "exponent") 507), (Value.str (Str.ofString "Lexer.exponent") 508), (Value.str (Str.ofString "/claim/cut.py") 509), (Value.int 171 0), (Value.int 3 0), (Value.int 0 0), (Value.int 0 0), (Value.int 3 0), (Value.ref 246), (Value.bool true), (Value.int 181 0), (Value.ref 247), Value.none, (Value.ref 248), (Value.ref 249), (Value.ref 250), (Value.int 516 0), (Value.int 171 0), (Value.str (Str.ofString "/claim/cut.py") 517)]) #[])
noncomputable abbrev o252 (P : Params) : Obj := (Obj.mk (Value.type "function") none (Data.func (FuncData.mk (Str.ofString "exponent") (Str.ofString "Lexer.exponent") pa252 (FuncBody.stmts bd252) sc252 3 [] Value.none Value.none Value.none (Value.str (Str.ofString "vectorcove.tokens") 305) none (Value.ref 251) Value.none 0)) #[])
noncomputable abbrev o253 (P : Params) : Obj := (Obj.mk (Value.type "tuple") none (Data.seq #[]) #[])
noncomputable abbrev o254 (P : Params) : Obj := (Obj.mk Value.none none (Data.fields #[]) #[])
noncomputable abbrev o255 (P : Params) : Obj := (Obj.mk (Value.type "tuple") none (Data.seq #[(Value.str (Str.ofString "self") 522), (Value.str (Str.ofString "at") 523), (Value.str (Str.ofString "value") 524), (Value.str (Str.ofString "end") 525)] 0) #[])
noncomputable abbrev o256 (P : Params) : Obj := (Obj.mk (Value.type "tuple") none (Data.seq #[]) #[])
noncomputable abbrev o257 (P : Params) : Obj := (Obj.mk Value.none none (Data.func (FuncData.mk (Str.ofString "hexadecimal") (Str.ofString "Lexer.hexadecimal") pa259 (FuncBody.stmts bd259) sc259 0 [] Value.none Value.none Value.none Value.none none Value.none Value.none 0)) #[])
noncomputable abbrev o258 (P : Params) : Obj := (Obj.mk (Value.type "code") none (Data.fields #[(Value.str (Str.ofString "hexadecimal") 519), (Value.str (Str.ofString "Lexer.hexadecimal") 520), (Value.str (Str.ofString "/claim/cut.py") 521), (Value.int 183 0), (Value.int 2 0), (Value.int 0 0), (Value.int 0 0), (Value.int 3 0), (Value.ref 253), (Value.bool true), (Value.int 181 0), (Value.ref 254), Value.none, (Value.ref 255), (Value.ref 256), (Value.ref 257), (Value.int 526 0), (Value.int 183 0), (Value.str (Str.ofString "/claim/cut.py") 527)]) #[])
noncomputable abbrev o259 (P : Params) : Obj := (Obj.mk (Value.type "function") none (Data.func (FuncData.mk (Str.ofString "hexadecimal") (Str.ofString "Lexer.hexadecimal") pa259 (FuncBody.stmts bd259) sc259 3 [] Value.none Value.none Value.none (Value.str (Str.ofString "vectorcove.tokens") 305) none (Value.ref 258) Value.none 0)) #[])
noncomputable abbrev o260 (P : Params) : Obj := (Obj.mk (Value.type "tuple") none (Data.seq #[]) #[])
noncomputable abbrev o261 (P : Params) : Obj := (Obj.mk Value.none none (Data.fields #[]) #[])
noncomputable abbrev o262 (P : Params) : Obj := (Obj.mk (Value.type "tuple") none (Data.seq #[(Value.str (Str.ofString "self") 532), (Value.str (Str.ofString "n") 533), (Value.str (Str.ofString "d") 534), (Value.str (Str.ofString "at") 535), (Value.str (Str.ofString "end") 536)] 0) #[])
noncomputable abbrev o263 (P : Params) : Obj := (Obj.mk (Value.type "tuple") none (Data.seq #[]) #[])
noncomputable abbrev o264 (P : Params) : Obj := (Obj.mk Value.none none (Data.func (FuncData.mk (Str.ofString "number_token") (Str.ofString "Lexer.number_token") pa266 (FuncBody.stmts bd266) sc266 0 [] Value.none Value.none Value.none Value.none none Value.none Value.none 0)) #[])
noncomputable abbrev o265 (P : Params) : Obj := (Obj.mk (Value.type "code") none (Data.fields #[(Value.str (Str.ofString "number_token") 529), (Value.str (Str.ofString "Lexer.number_token") 530), (Value.str (Str.ofString "/claim/cut.py") 531), (Value.int 193 0), (Value.int 5 0), (Value.int 0 0), (Value.int 0 0), (Value.int 3 0), (Value.ref 260), (Value.bool true), (Value.int 181 0), (Value.ref 261), Value.none, (Value.ref 262), (Value.ref 263), (Value.ref 264), (Value.int 537 0), (Value.int 193 0), (Value.str (Str.ofString "/claim/cut.py") 538)]) #[])
noncomputable abbrev o266 (P : Params) : Obj := (Obj.mk (Value.type "function") none (Data.func (FuncData.mk (Str.ofString "number_token") (Str.ofString "Lexer.number_token") pa266 (FuncBody.stmts bd266) sc266 3 [] Value.none Value.none Value.none (Value.str (Str.ofString "vectorcove.tokens") 305) none (Value.ref 265) Value.none 0)) #[])
noncomputable abbrev o267 (P : Params) : Obj := (Obj.mk (Value.type "tuple") none (Data.seq #[]) #[])
noncomputable abbrev o268 (P : Params) : Obj := (Obj.mk Value.none none (Data.fields #[]) #[])
noncomputable abbrev o269 (P : Params) : Obj := (Obj.mk (Value.type "tuple") none (Data.seq #[(Value.str (Str.ofString "self") 543), (Value.str (Str.ofString "at") 544), (Value.str (Str.ofString "quote") 545), (Value.str (Str.ofString "chars") 546), (Value.str (Str.ofString "index") 547), (Value.str (Str.ofString "char") 548)] 0) #[])
noncomputable abbrev o270 (P : Params) : Obj := (Obj.mk (Value.type "tuple") none (Data.seq #[]) #[])
noncomputable abbrev o271 (P : Params) : Obj := (Obj.mk Value.none none (Data.func (FuncData.mk (Str.ofString "quoted") (Str.ofString "Lexer.quoted") pa273 (FuncBody.stmts bd273) sc273 0 [] Value.none Value.none Value.none Value.none none Value.none Value.none 0)) #[])
noncomputable abbrev o272 (P : Params) : Obj := (Obj.mk (Value.type "code") none (Data.fields #[(Value.str (Str.ofString "quoted") 540), (Value.str (Str.ofString "Lexer.quoted") 541), (Value.str (Str.ofString "/claim/cut.py") 542), (Value.int 202 0), (Value.int 2 0), (Value.int 0 0), (Value.int 0 0), (Value.int 3 0), (Value.ref 267), (Value.bool true), (Value.int 181 0), (Value.ref 268), Value.none, (Value.ref 269), (Value.ref 270), (Value.ref 271), (Value.int 549 0), (Value.int 202 0), (Value.str (Str.ofString "/claim/cut.py") 550)]) #[])
noncomputable abbrev o273 (P : Params) : Obj := (Obj.mk (Value.type "function") none (Data.func (FuncData.mk (Str.ofString "quoted") (Str.ofString "Lexer.quoted") pa273 (FuncBody.stmts bd273) sc273 3 [] Value.none Value.none Value.none (Value.str (Str.ofString "vectorcove.tokens") 305) none (Value.ref 272) Value.none 0)) #[])
noncomputable abbrev o274 (P : Params) : Obj := (Obj.mk (Value.type "tuple") none (Data.seq #[]) #[])
noncomputable abbrev o275 (P : Params) : Obj := (Obj.mk Value.none none (Data.fields #[]) #[])
noncomputable abbrev o276 (P : Params) : Obj := (Obj.mk (Value.type "tuple") none (Data.seq #[(Value.str (Str.ofString "self") 555), (Value.str (Str.ofString "at") 556), (Value.str (Str.ofString "char") 557), (Value.str (Str.ofString "simple") 558), (Value.str (Str.ofString "most") 559), (Value.str (Str.ofString "found") 560), (Value.str (Str.ofString "end") 561)] 0) #[])
noncomputable abbrev o277 (P : Params) : Obj := (Obj.mk (Value.type "tuple") none (Data.seq #[]) #[])
noncomputable abbrev o278 (P : Params) : Obj := (Obj.mk Value.none none (Data.func (FuncData.mk (Str.ofString "escape") (Str.ofString "Lexer.escape") pa280 (FuncBody.stmts bd280) sc280 0 [] Value.none Value.none Value.none Value.none none Value.none Value.none 0)) #[])
noncomputable abbrev o279 (P : Params) : Obj := (Obj.mk (Value.type "code") none (Data.fields #[(Value.str (Str.ofString "escape") 552), (Value.str (Str.ofString "Lexer.escape") 553), (Value.str (Str.ofString "/claim/cut.py") 554), (Value.int 219 0), (Value.int 2 0), (Value.int 0 0), (Value.int 0 0), (Value.int 3 0), (Value.ref 274), (Value.bool true), (Value.int 181 0), (Value.ref 275), Value.none, (Value.ref 276), (Value.ref 277), (Value.ref 278), (Value.int 562 0), (Value.int 219 0), (Value.str (Str.ofString "/claim/cut.py") 563)]) #[])
noncomputable abbrev o280 (P : Params) : Obj := (Obj.mk (Value.type "function") none (Data.func (FuncData.mk (Str.ofString "escape") (Str.ofString "Lexer.escape") pa280 (FuncBody.stmts bd280) sc280 3 [] Value.none Value.none Value.none (Value.str (Str.ofString "vectorcove.tokens") 305) none (Value.ref 279) Value.none 0)) #[])
noncomputable abbrev o281 (P : Params) : Obj := (Obj.mk (Value.type "tuple") none (Data.seq #[]) #[])
noncomputable abbrev o282 (P : Params) : Obj := (Obj.mk Value.none none (Data.fields #[]) #[])
noncomputable abbrev o283 (P : Params) : Obj := (Obj.mk (Value.type "tuple") none (Data.seq #[(Value.str (Str.ofString "self") 568), (Value.str (Str.ofString "at") 569), (Value.str (Str.ofString "begin") 570), (Value.str (Str.ofString "base") 571), (Value.str (Str.ofString "most") 572), (Value.str (Str.ofString "value") 573), (Value.str (Str.ofString "index") 574), (Value.str (Str.ofString "digit") 575), (Value.str (Str.ofString "surrogate") 576)] 0) #[])
noncomputable abbrev o284 (P : Params) : Obj := (Obj.mk (Value.type "tuple") none (Data.seq #[]) #[])
noncomputable abbrev o285 (P : Params) : Obj := (Obj.mk Value.none none (Data.func (FuncData.mk (Str.ofString "coded") (Str.ofString "Lexer.coded") pa287 (FuncBody.stmts bd287) sc287 0 [] Value.none Value.none Value.none Value.none none Value.none Value.none 0)) #[])
noncomputable abbrev o286 (P : Params) : Obj := (Obj.mk (Value.type "code") none (Data.fields #[(Value.str (Str.ofString "coded") 565), (Value.str (Str.ofString "Lexer.coded") 566), (Value.str (Str.ofString "/claim/cut.py") 567), (Value.int 242 0), (Value.int 5 0), (Value.int 0 0), (Value.int 0 0), (Value.int 3 0), (Value.ref 281), (Value.bool true), (Value.int 181 0), (Value.ref 282), Value.none, (Value.ref 283), (Value.ref 284), (Value.ref 285), (Value.int 577 0), (Value.int 242 0), (Value.str (Str.ofString "/claim/cut.py") 578)]) #[])
noncomputable abbrev o287 (P : Params) : Obj := (Obj.mk (Value.type "function") none (Data.func (FuncData.mk (Str.ofString "coded") (Str.ofString "Lexer.coded") pa287 (FuncBody.stmts bd287) sc287 3 [] Value.none Value.none Value.none (Value.str (Str.ofString "vectorcove.tokens") 305) none (Value.ref 286) Value.none 0)) #[])
noncomputable abbrev o288 (P : Params) : Obj := (Obj.mk (Value.type "tuple") none (Data.seq #[]) #[])
noncomputable abbrev o289 (P : Params) : Obj := (Obj.mk Value.none none (Data.fields #[]) #[])
noncomputable abbrev o290 (P : Params) : Obj := (Obj.mk (Value.type "tuple") none (Data.seq #[(Value.str (Str.ofString "self") 583), (Value.str (Str.ofString "at") 584), (Value.str (Str.ofString "quote") 585), (Value.str (Str.ofString "index") 586), (Value.str (Str.ofString "dashes") 587), (Value.str (Str.ofString "opened") 588), (Value.str (Str.ofString "closing") 589), (Value.str (Str.ofString "end") 590)] 0) #[])
noncomputable abbrev o291 (P : Params) : Obj := (Obj.mk (Value.type "tuple") none (Data.seq #[]) #[])
noncomputable abbrev o292 (P : Params) : Obj := (Obj.mk Value.none none (Data.func (FuncData.mk (Str.ofString "raw_string") (Str.ofString "Lexer.raw_string") pa294 (FuncBody.stmts bd294) sc294 0 [] Value.none Value.none Value.none Value.none none Value.none Value.none 0)) #[])
noncomputable abbrev o293 (P : Params) : Obj := (Obj.mk (Value.type "code") none (Data.fields #[(Value.str (Str.ofString "raw_string") 580), (Value.str (Str.ofString "Lexer.raw_string") 581), (Value.str (Str.ofString "/claim/cut.py") 582), (Value.int 256 0), (Value.int 2 0), (Value.int 0 0), (Value.int 0 0), (Value.int 3 0), (Value.ref 288), (Value.bool true), (Value.int 181 0), (Value.ref 289), Value.none, (Value.ref 290), (Value.ref 291), (Value.ref 292), (Value.int 591 0), (Value.int 256 0), (Value.str (Str.ofString "/claim/cut.py") 592)]) #[])
noncomputable abbrev o294 (P : Params) : Obj := (Obj.mk (Value.type "function") none (Data.func (FuncData.mk (Str.ofString "raw_string") (Str.ofString "Lexer.raw_string") pa294 (FuncBody.stmts bd294) sc294 3 [] Value.none Value.none Value.none (Value.str (Str.ofString "vectorcove.tokens") 305) none (Value.ref 293) Value.none 0)) #[])
noncomputable abbrev o295 (P : Params) : Obj := (Obj.mk (Value.type "tuple") none (Data.seq #[(Value.str (Str.ofString "at") 594), (Value.str (Str.ofString "keys") 595), (Value.str (Str.ofString "newline") 596), (Value.str (Str.ofString "text") 597)] 0) #[])
noncomputable abbrev o296 (P : Params) : Obj := (Obj.mk (Value.type "dict") none (Data.dict #[(DictEntry.mk (PyData.keyHash P (Str.ofString "__module__")) (Value.str (Str.ofString "__module__") 404) (Value.str (Str.ofString "vectorcove.tokens") 305)), (DictEntry.mk (PyData.keyHash P (Str.ofString "__firstlineno__")) (Value.str (Str.ofString "__firstlineno__") 408) (Value.int 66 407)), (DictEntry.mk (PyData.keyHash P (Str.ofString "__init__")) (Value.str (Str.ofString "__init__") 418) (Value.ref 182)), (DictEntry.mk (PyData.keyHash P (Str.ofString "char")) (Value.str (Str.ofString "char") 426) (Value.ref 189)), (DictEntry.mk (PyData.keyHash P (Str.ofString "token")) (Value.str (Str.ofString "token") 437) (Value.ref 196)), (DictEntry.mk (PyData.keyHash P (Str.ofString "next_token")) (Value.str (Str.ofString "next_token") 448) (Value.ref 203)), (DictEntry.mk (PyData.keyHash P (Str.ofString "skip")) (Value.str (Str.ofString "skip") 456) (Value.ref 210)), (DictEntry.mk (PyData.keyHash P (Str.ofString "word")) (Value.str (Str.ofString "word") 466) (Value.ref 217)), (DictEntry.mk (PyData.keyHash P (Str.ofString "percent")) (Value.str (Str.ofString "percent") 475) (Value.ref 224)), (DictEntry.mk (PyData.keyHash P (Str.ofString "operator")) (Value.str (Str.ofString "operator") 484) (Value.ref 231)), (DictEntry.mk (PyData.keyHash P (Str.ofString "digits_end")) (Value.str (Str.ofString "digits_end") 492) (Value.ref 238)), (DictEntry.mk (PyData.keyHash P (Str.ofString "numeral")) (Value.str (Str.ofString "numeral") 506) (Value.ref 245)), (DictEntry.mk (PyData.keyHash P (Str.ofString "exponent")) (Value.str (Str.ofString "exponent") 518) (Value.ref 252)), (DictEntry.mk (PyData.keyHash P (Str.ofString "hexadecimal")) (Value.str (Str.ofString "hexadecimal") 528) (Value.ref 259)), (DictEntry.mk (PyData.keyHash P (Str.ofString "number_token")) (Value.str (Str.ofString "number_token") 539) (Value.ref 266)), (DictEntry.mk (PyData.keyHash P (Str.ofString "quoted")) (Value.str (Str.ofString "quoted") 551) (Value.ref 273)), (DictEntry.mk (PyData.keyHash P (Str.ofString "escape")) (Value.str (Str.ofString "escape") 564) (Value.ref 280)), (DictEntry.mk (PyData.keyHash P (Str.ofString "coded")) (Value.str (Str.ofString "coded") 579) (Value.ref 287)), (DictEntry.mk (PyData.keyHash P (Str.ofString "raw_string")) (Value.str (Str.ofString "raw_string") 593) (Value.ref 294)), (DictEntry.mk (PyData.keyHash P (Str.ofString "__static_attributes__")) (Value.str (Str.ofString "__static_attributes__") 598) (Value.ref 295)), (DictEntry.mk (PyData.keyHash P (Str.ofString "__dict__")) (Value.str (Str.ofString "__dict__") 600) (Value.ref 298)), (DictEntry.mk (PyData.keyHash P (Str.ofString "__weakref__")) (Value.str (Str.ofString "__weakref__") 602) (Value.ref 299)), (DictEntry.mk (PyData.keyHash P (Str.ofString "__doc__")) (Value.str (Str.ofString "__doc__") 603) Value.none)] 4) #[])
noncomputable abbrev o297 (P : Params) : Obj := (Obj.mk (Value.type "type") none (Data.cls (ClassData.mk (Str.ofString "Lexer") [(Value.type "object")] [(Value.ref 297), (Value.type "object")] 296 (Str.ofString "Lexer") true [] [] false none false)) #[none, none, (some (Value.str (Str.ofString "Lexer") 397)), (some (Value.str (Str.ofString "Lexer") 405)), (some (Value.builtin "object.__new__")), (some (Value.bool true))])
noncomputable abbrev o298 (P : Params) : Obj := (Obj.mk (Value.type "getset_descriptor") none (Data.fields #[(Value.str (Str.ofString "__dict__") 599), (Value.ref 297), (Value.builtin "function.__dict__"), (Value.builtin "function.__dict__#set")]) #[])
noncomputable abbrev o299 (P : Params) : Obj := (Obj.mk (Value.type "getset_descriptor") none (Data.fields #[(Value.str (Str.ofString "__weakref__") 601), (Value.ref 297), (Value.builtin "ExceptionGroup.__weakref__"), Value.none]) #[])
noncomputable abbrev o300 (P : Params) : Obj := (Obj.mk (Value.type "super") none (Data.fields #[(Value.ref 297), (Value.ref 297), (Value.ref 297)]) #[])
noncomputable abbrev o301 (P : Params) : Obj := (Obj.mk (Value.type "builtin_function_or_method") none (Data.fields #[(Value.builtin "object.__init_subclass__"), (Value.ref 297)]) #[])
noncomputable abbrev o3v5 (P : Params) : Obj := (Obj.mk (Value.type "dict") none (Data.dict #[(DictEntry.mk (PyData.keyHash P (Str.ofString "__name__")) (Value.str (Str.ofString "__name__") 165) (Value.str (Str.ofString "law_no0507_01") 606)), (DictEntry.mk (PyData.keyHash P (Str.ofString "__doc__")) (Value.str (Str.ofString "__doc__") 166) Value.none), (DictEntry.mk (PyData.keyHash P (Str.ofString "__package__")) (Value.str (Str.ofString "__package__") 167) Value.none), (DictEntry.mk (PyData.keyHash P (Str.ofString "__loader__")) (Value.str (Str.ofString "__loader__") 168) (Value.builtin "__main__.__loader__#opaque")), (DictEntry.mk (PyData.keyHash P (Str.ofString "__spec__")) (Value.str (Str.ofString "__spec__") 169) Value.none), (DictEntry.mk (PyData.keyHash P (Str.ofString "__annotations__")) (Value.str (Str.ofString "__annotations__") 170) (Value.ref 6)), (DictEntry.mk (PyData.keyHash P (Str.ofString "__builtins__")) (Value.str (Str.ofString "__builtins__") 171) (Value.ref 4)), (DictEntry.mk (PyData.keyHash P (Str.ofString "__file__")) (Value.str (Str.ofString "__file__") 173) (Value.str (Str.ofString "/claim/cut.py") 172)), (DictEntry.mk (PyData.keyHash P (Str.ofString "__cached__")) (Value.str (Str.ofString "__cached__") 174) Value.none), (DictEntry.mk (PyData.keyHash P (Str.ofString "_wall")) (Value.str (Str.ofString "_wall") 193) (Value.ref 21)), (DictEntry.mk (PyData.keyHash P (Str.ofString "CoveError")) (Value.str (Str.ofString "CoveError") 215) (Value.ref 31)), (DictEntry.mk (PyData.keyHash P (Str.ofString "ReadError")) (Value.str (Str.ofString "ReadError") 242) (Value.ref 51)), (DictEntry.mk (PyData.keyHash P (Str.ofString "Vector")) (Value.str (Str.ofString "Vector") 286) (Value.ref 78)), (DictEntry.mk (PyData.keyHash P (Str.ofString "whole")) (Value.str (Str.ofString "whole") 293) (Value.ref 89)), (DictEntry.mk (PyData.keyHash P (Str.ofString "number")) (Value.str (Str.ofString "number") 304) (Value.ref 97)), (DictEntry.mk (PyData.keyHash P (Str.ofString "MOST_EXPONENT")) (Value.str (Str.ofString "MOST_EXPONENT") 308) (Value.int 4096 307)), (DictEntry.mk (PyData.keyHash P (Str.ofString "MOST_INTEGER")) (Value.str (Str.ofString "MOST_INTEGER") 310) (Value.int 2147483647 309)), (DictEntry.mk (PyData.keyHash P (Str.ofString "Token")) (Value.str (Str.ofString "Token") 345) (Value.ref 114)), (DictEntry.mk (PyData.keyHash P (Str.ofString "keywords")) (Value.str (Str.ofString "keywords") 351) (Value.ref 125)), (DictEntry.mk (PyData.keyHash P (Str.ofString "is_letter")) (Value.str (Str.ofString "is_letter") 358) (Value.ref 132)), (DictEntry.mk (PyData.keyHash P (Str.ofString "is_digit")) (Value.str (Str.ofString "is_digit") 365) (Value.ref 139)), (DictEntry.mk (PyData.keyHash P (Str.ofString "is_name_char")) (Value.str (Str.ofString "is_name_char") 372) (Value.ref 146)), (DictEntry.mk (PyData.keyHash P (Str.ofString "hex_value")) (Value.str (Str.ofString "hex_value") 379) (Value.ref 153)), (DictEntry.mk (PyData.keyHash P (Str.ofString "simple_escape")) (Value.str (Str.ofString "simple_escape") 387) (Value.ref 160)), (DictEntry.mk (PyData.keyHash P (Str.ofString "digits_value")) (Value.str (Str.ofString "digits_value") 396) (Value.ref 167)), (DictEntry.mk (PyData.keyHash P (Str.ofString "Lexer")) (Value.str (Str.ofString "Lexer") 605) (Value.ref 297)), (DictEntry.mk (PyData.keyHash P (Str.ofString "_law_pool")) (Value.str (Str.ofString "_law_pool") 620) (Value.ref 308)), (DictEntry.mk (PyData.keyHash P (Str.ofString "_law_pick")) (Value.str (Str.ofString "_law_pick") 629) (Value.ref 315)), (DictEntry.mk (PyData.keyHash P (Str.ofString "_law_numeral")) (Value.str (Str.ofString "_law_numeral") 641) (Value.ref 322)), (DictEntry.mk (PyData.keyHash P (Str.ofString "_law_piece")) (Value.str (Str.ofString "_law_piece") 654) (Value.ref 329)), (DictEntry.mk (PyData.keyHash P (Str.ofString "_law_quoted")) (Value.str (Str.ofString "_law_quoted") 667) (Value.ref 336)), (DictEntry.mk (PyData.keyHash P (Str.ofString "_law_token")) (Value.str (Str.ofString "_law_token") 683) (Value.ref 343)), (DictEntry.mk (PyData.keyHash P (Str.ofString "_law_gap")) (Value.str (Str.ofString "_law_gap") 694) (Value.ref 350)), (DictEntry.mk (PyData.keyHash P (Str.ofString "_law_faults")) (Value.str (Str.ofString "_law_faults") 700) (Value.ref 357)), (DictEntry.mk (PyData.keyHash P (Str.ofString "_law_told")) (Value.str (Str.ofString "_law_told") 708) (Value.ref 364)), (DictEntry.mk (PyData.keyHash P (Str.ofString "law")) (Value.str (Str.ofString "law") 733) (Value.ref 371))] 36) #[])
noncomputable abbrev o12v5 (P : Params) : Obj := (Obj.mk Value.none none (Data.fields #[(Value.int 1 0), (Value.int 0 0), (Value.ref 20), (Value.int 5 0), (Value.int 0 0), (Value.ref 27), (Value.int 7 0), (Value.int 0 0), (Value.ref 40), (Value.int 13 0), (Value.int 0 0), (Value.ref 59), (Value.int 24 0), (Value.int 0 0), (Value.ref 88), (Value.int 26 0), (Value.int 0 0), (Value.ref 96), (Value.int 35 0), (Value.int 0 0), (Value.ref 103), (Value.int 42 0), (Value.int 0 0), (Value.ref 124), (Value.int 44 0), (Value.int 0 0), (Value.ref 131), (Value.int 46 0), (Value.int 0 0), (Value.ref 138), (Value.int 48 0), (Value.int 0 0), (Value.ref 145), (Value.int 50 0), (Value.int 0 0), (Value.ref 152), (Value.int 54 0), (Value.int 0 0), (Value.ref 159), (Value.int 61 0), (Value.int 0 0), (Value.ref 166), (Value.int 66 0), (Value.int 0 0), (Value.ref 173), (Value.int 271 0), (Value.int 0 0), (Value.ref 307), (Value.int 286 0), (Value.int 0 0), (Value.ref 314), (Value.int 296 0), (Value.int 0 0), (Value.ref 321), (Value.int 302 0), (Value.int 0 0), (Value.ref 328), (Value.int 317 0), (Value.int 0 0), (Value.ref 335), (Value.int 325 0), (Value.int 0 0), (Value.ref 342), (Value.int 352 0), (Value.int 0 0), (Value.ref 349), (Value.int 360 0), (Value.int 0 0), (Value.ref 356), (Value.int 362 0), (Value.int 0 0), (Value.ref 363), (Value.int 367 0), (Value.int 0 0), (Value.ref 370)]) #[])
noncomputable abbrev o302 (P : Params) : Obj := (Obj.mk (Value.type "tuple") none (Data.seq #[]) #[])
noncomputable abbrev o303 (P : Params) : Obj := (Obj.mk Value.none none (Data.fields #[]) #[])
noncomputable abbrev o304 (P : Params) : Obj := (Obj.mk (Value.type "tuple") none (Data.seq #[(Value.str (Str.ofString "script") 611), (Value.str (Str.ofString "figures") 612), (Value.str (Str.ofString "mix") 613), (Value.str (Str.ofString "cell") 614), (Value.str (Str.ofString "big") 615), (Value.str (Str.ofString "rest") 616), (Value.str (Str.ofString "step") 617)] 0) #[])
noncomputable abbrev o305 (P : Params) : Obj := (Obj.mk (Value.type "tuple") none (Data.seq #[]) #[])
noncomputable abbrev o306 (P : Params) : Obj := (Obj.mk Value.none none (Data.func (FuncData.mk (Str.ofString "_law_pool") (Str.ofString "_law_pool") pa308 (FuncBody.stmts bd308) sc308 0 [] Value.none Value.none Value.none Value.none none Value.none Value.none 0)) #[])
noncomputable abbrev o307 (P : Params) : Obj := (Obj.mk (Value.type "code") none (Data.fields #[(Value.str (Str.ofString "_law_pool") 608), (Value.str (Str.ofString "_law_pool") 609), (Value.str (Str.ofString "/claim/cut.py") 610), (Value.int 271 0), (Value.int 1 0), (Value.int 0 0), (Value.int 0 0), (Value.int 3 0), (Value.ref 302), (Value.bool true), (Value.int 181 0), (Value.ref 303), Value.none, (Value.ref 304), (Value.ref 305), (Value.ref 306), (Value.int 618 0), (Value.int 271 0), (Value.str (Str.ofString "/claim/cut.py") 619)]) #[])
noncomputable abbrev o308 (P : Params) : Obj := (Obj.mk (Value.type "function") none (Data.func (FuncData.mk (Str.ofString "_law_pool") (Str.ofString "_law_pool") pa308 (FuncBody.stmts bd308) sc308 3 [] Value.none Value.none Value.none (Value.str (Str.ofString "law_no0507_01") 606) none (Value.ref 307) Value.none 0)) #[])
noncomputable abbrev o309 (P : Params) : Obj := (Obj.mk (Value.type "tuple") none (Data.seq #[]) #[])
noncomputable abbrev o310 (P : Params) : Obj := (Obj.mk Value.none none (Data.fields #[]) #[])
noncomputable abbrev o311 (P : Params) : Obj := (Obj.mk (Value.type "tuple") none (Data.seq #[(Value.str (Str.ofString "pool") 624), (Value.str (Str.ofString "bound") 625), (Value.str (Str.ofString "figure") 626)] 0) #[])
noncomputable abbrev o312 (P : Params) : Obj := (Obj.mk (Value.type "tuple") none (Data.seq #[]) #[])
noncomputable abbrev o313 (P : Params) : Obj := (Obj.mk Value.none none (Data.func (FuncData.mk (Str.ofString "_law_pick") (Str.ofString "_law_pick") pa315 (FuncBody.stmts bd315) sc315 0 [] Value.none Value.none Value.none Value.none none Value.none Value.none 0)) #[])
noncomputable abbrev o314 (P : Params) : Obj := (Obj.mk (Value.type "code") none (Data.fields #[(Value.str (Str.ofString "_law_pick") 621), (Value.str (Str.ofString "_law_pick") 622), (Value.str (Str.ofString "/claim/cut.py") 623), (Value.int 286 0), (Value.int 2 0), (Value.int 0 0), (Value.int 0 0), (Value.int 3 0), (Value.ref 309), (Value.bool true), (Value.int 181 0), (Value.ref 310), Value.none, (Value.ref 311), (Value.ref 312), (Value.ref 313), (Value.int 627 0), (Value.int 286 0), (Value.str (Str.ofString "/claim/cut.py") 628)]) #[])
noncomputable abbrev o315 (P : Params) : Obj := (Obj.mk (Value.type "function") none (Data.func (FuncData.mk (Str.ofString "_law_pick") (Str.ofString "_law_pick") pa315 (FuncBody.stmts bd315) sc315 3 [] Value.none Value.none Value.none (Value.str (Str.ofString "law_no0507_01") 606) none (Value.ref 314) Value.none 0)) #[])
noncomputable abbrev o316 (P : Params) : Obj := (Obj.mk (Value.type "tuple") none (Data.seq #[]) #[])
noncomputable abbrev o317 (P : Params) : Obj := (Obj.mk Value.none none (Data.fields #[]) #[])
noncomputable abbrev o318 (P : Params) : Obj := (Obj.mk (Value.type "tuple") none (Data.seq #[(Value.str (Str.ofString "pool") 633), (Value.str (Str.ofString "rows") 634), (Value.str (Str.ofString "row") 635), (Value.str (Str.ofString "kind") 636), (Value.str (Str.ofString "n") 637), (Value.str (Str.ofString "d") 638)] 0) #[])
noncomputable abbrev o319 (P : Params) : Obj := (Obj.mk (Value.type "tuple") none (Data.seq #[]) #[])
noncomputable abbrev o320 (P : Params) : Obj := (Obj.mk Value.none none (Data.func (FuncData.mk (Str.ofString "_law_numeral") (Str.ofString "_law_numeral") pa322 (FuncBody.stmts bd322) sc322 0 [] Value.none Value.none Value.none Value.none none Value.none Value.none 0)) #[])
noncomputable abbrev o321 (P : Params) : Obj := (Obj.mk (Value.type "code") none (Data.fields #[(Value.str (Str.ofString "_law_numeral") 630), (Value.str (Str.ofString "_law_numeral") 631), (Value.str (Str.ofString "/claim/cut.py") 632), (Value.int 296 0), (Value.int 1 0), (Value.int 0 0), (Value.int 0 0), (Value.int 3 0), (Value.ref 316), (Value.bool true), (Value.int 181 0), (Value.ref 317), Value.none, (Value.ref 318), (Value.ref 319), (Value.ref 320), (Value.int 639 0), (Value.int 296 0), (Value.str (Str.ofString "/claim/cut.py") 640)]) #[])
noncomputable abbrev o322 (P : Params) : Obj := (Obj.mk (Value.type "function") none (Data.func (FuncData.mk (Str.ofString "_law_numeral") (Str.ofString "_law_numeral") pa322 (FuncBody.stmts bd322) sc322 3 [] Value.none Value.none Value.none (Value.str (Str.ofString "law_no0507_01") 606) none (Value.ref 321) Value.none 0)) #[])
noncomputable abbrev o323 (P : Params) : Obj := (Obj.mk (Value.type "tuple") none (Data.seq #[]) #[])
noncomputable abbrev o324 (P : Params) : Obj := (Obj.mk Value.none none (Data.fields #[]) #[])
noncomputable abbrev o325 (P : Params) : Obj := (Obj.mk (Value.type "tuple") none (Data.seq #[(Value.str (Str.ofString "pool") 645), (Value.str (Str.ofString "quote") 646), (Value.str (Str.ofString "way") 647), (Value.str (Str.ofString "char") 648), (Value.str (Str.ofString "figure") 649), (Value.str (Str.ofString "low") 650), (Value.str (Str.ofString "row") 651)] 0) #[])
noncomputable abbrev o326 (P : Params) : Obj := (Obj.mk (Value.type "tuple") none (Data.seq #[]) #[])
noncomputable abbrev o327 (P : Params) : Obj := (Obj.mk Value.none none (Data.func (FuncData.mk (Str.ofString "_law_piece") (Str.ofString "_law_piece") pa329 (FuncBody.stmts bd329) sc329 0 [] Value.none Value.none Value.none Value.none none Value.none Value.none 0)) #[])
noncomputable abbrev o328 (P : Params) : Obj := (Obj.mk (Value.type "code") none (Data.fields #[(Value.str (Str.ofString "_law_piece") 642), (Value.str (Str.ofString "_law_piece") 643), (Value.str (Str.ofString "/claim/cut.py") 644), (Value.int 302 0), (Value.int 2 0), (Value.int 0 0), (Value.int 0 0), (Value.int 3 0), (Value.ref 323), (Value.bool true), (Value.int 181 0), (Value.ref 324), Value.none, (Value.ref 325), (Value.ref 326), (Value.ref 327), (Value.int 652 0), (Value.int 302 0), (Value.str (Str.ofString "/claim/cut.py") 653)]) #[])
noncomputable abbrev o329 (P : Params) : Obj := (Obj.mk (Value.type "function") none (Data.func (FuncData.mk (Str.ofString "_law_piece") (Str.ofString "_law_piece") pa329 (FuncBody.stmts bd329) sc329 3 [] Value.none Value.none Value.none (Value.str (Str.ofString "law_no0507_01") 606) none (Value.ref 328) Value.none 0)) #[])
noncomputable abbrev o330 (P : Params) : Obj := (Obj.mk (Value.type "tuple") none (Data.seq #[]) #[])
noncomputable abbrev o331 (P : Params) : Obj := (Obj.mk Value.none none (Data.fields #[]) #[])
noncomputable abbrev o332 (P : Params) : Obj := (Obj.mk (Value.type "tuple") none (Data.seq #[(Value.str (Str.ofString "pool") 658), (Value.str (Str.ofString "quote") 659), (Value.str (Str.ofString "row") 660), (Value.str (Str.ofString "value") 661), (Value.str (Str.ofString "step") 662), (Value.str (Str.ofString "more") 663), (Value.str (Str.ofString "char") 664)] 0) #[])
noncomputable abbrev o333 (P : Params) : Obj := (Obj.mk (Value.type "tuple") none (Data.seq #[]) #[])
noncomputable abbrev o334 (P : Params) : Obj := (Obj.mk Value.none none (Data.func (FuncData.mk (Str.ofString "_law_quoted") (Str.ofString "_law_quoted") pa336 (FuncBody.stmts bd336) sc336 0 [] Value.none Value.none Value.none Value.none none Value.none Value.none 0)) #[])
noncomputable abbrev o335 (P : Params) : Obj := (Obj.mk (Value.type "code") none (Data.fields #[(Value.str (Str.ofString "_law_quoted") 655), (Value.str (Str.ofString "_law_quoted") 656), (Value.str (Str.ofString "/claim/cut.py") 657), (Value.int 317 0), (Value.int 2 0), (Value.int 0 0), (Value.int 0 0), (Value.int 3 0), (Value.ref 330), (Value.bool true), (Value.int 181 0), (Value.ref 331), Value.none, (Value.ref 332), (Value.ref 333), (Value.ref 334), (Value.int 665 0), (Value.int 317 0), (Value.str (Str.ofString "/claim/cut.py") 666)]) #[])
noncomputable abbrev o336 (P : Params) : Obj := (Obj.mk (Value.type "function") none (Data.func (FuncData.mk (Str.ofString "_law_quoted") (Str.ofString "_law_quoted") pa336 (FuncBody.stmts bd336) sc336 3 [] Value.none Value.none Value.none (Value.str (Str.ofString "law_no0507_01") 606) none (Value.ref 335) Value.none 0)) #[])
noncomputable abbrev o337 (P : Params) : Obj := (Obj.mk (Value.type "tuple") none (Data.seq #[]) #[])
noncomputable abbrev o338 (P : Params) : Obj := (Obj.mk Value.none none (Data.fields #[]) #[])
noncomputable abbrev o339 (P : Params) : Obj := (Obj.mk (Value.type "tuple") none (Data.seq #[(Value.str (Str.ofString "pool") 671), (Value.str (Str.ofString "kind") 672), (Value.str (Str.ofString "name") 673), (Value.str (Str.ofString "row") 674), (Value.str (Str.ofString "value") 675), (Value.str (Str.ofString "begun") 676), (Value.str (Str.ofString "closed") 677), (Value.str (Str.ofString "dashes") 678), (Value.str (Str.ofString "quote") 679), (Value.str (Str.ofString "texts") 680)] 0) #[])
noncomputable abbrev o340 (P : Params) : Obj := (Obj.mk (Value.type "tuple") none (Data.seq #[]) #[])
noncomputable abbrev o341 (P : Params) : Obj := (Obj.mk Value.none none (Data.func (FuncData.mk (Str.ofString "_law_token") (Str.ofString "_law_token") pa343 (FuncBody.stmts bd343) sc343 0 [] Value.none Value.none Value.none Value.none none Value.none Value.none 0)) #[])
noncomputable abbrev o342 (P : Params) : Obj := (Obj.mk (Value.type "code") none (Data.fields #[(Value.str (Str.ofString "_law_token") 668), (Value.str (Str.ofString "_law_token") 669), (Value.str (Str.ofString "/claim/cut.py") 670), (Value.int 325 0), (Value.int 1 0), (Value.int 0 0), (Value.int 0 0), (Value.int 3 0), (Value.ref 337), (Value.bool true), (Value.int 181 0), (Value.ref 338), Value.none, (Value.ref 339), (Value.ref 340), (Value.ref 341), (Value.int 681 0), (Value.int 325 0), (Value.str (Str.ofString "/claim/cut.py") 682)]) #[])
noncomputable abbrev o343 (P : Params) : Obj := (Obj.mk (Value.type "function") none (Data.func (FuncData.mk (Str.ofString "_law_token") (Str.ofString "_law_token") pa343 (FuncBody.stmts bd343) sc343 3 [] Value.none Value.none Value.none (Value.str (Str.ofString "law_no0507_01") 606) none (Value.ref 342) Value.none 0)) #[])
noncomputable abbrev o344 (P : Params) : Obj := (Obj.mk (Value.type "tuple") none (Data.seq #[]) #[])
noncomputable abbrev o345 (P : Params) : Obj := (Obj.mk Value.none none (Data.fields #[]) #[])
noncomputable abbrev o346 (P : Params) : Obj := (Obj.mk (Value.type "tuple") none (Data.seq #[(Value.str (Str.ofString "pool") 687), (Value.str (Str.ofString "must") 688), (Value.str (Str.ofString "row") 689), (Value.str (Str.ofString "count") 690), (Value.str (Str.ofString "step") 691)] 0) #[])
noncomputable abbrev o347 (P : Params) : Obj := (Obj.mk (Value.type "tuple") none (Data.seq #[]) #[])
noncomputable abbrev o348 (P : Params) : Obj := (Obj.mk Value.none none (Data.func (FuncData.mk (Str.ofString "_law_gap") (Str.ofString "_law_gap") pa350 (FuncBody.stmts bd350) sc350 0 [] Value.none Value.none Value.none Value.none none Value.none Value.none 0)) #[])
noncomputable abbrev o349 (P : Params) : Obj := (Obj.mk (Value.type "code") none (Data.fields #[(Value.str (Str.ofString "_law_gap") 684), (Value.str (Str.ofString "_law_gap") 685), (Value.str (Str.ofString "/claim/cut.py") 686), (Value.int 352 0), (Value.int 2 0), (Value.int 0 0), (Value.int 0 0), (Value.int 3 0), (Value.ref 344), (Value.bool true), (Value.int 181 0), (Value.ref 345), Value.none, (Value.ref 346), (Value.ref 347), (Value.ref 348), (Value.int 692 0), (Value.int 352 0), (Value.str (Str.ofString "/claim/cut.py") 693)]) #[])
noncomputable abbrev o350 (P : Params) : Obj := (Obj.mk (Value.type "function") none (Data.func (FuncData.mk (Str.ofString "_law_gap") (Str.ofString "_law_gap") pa350 (FuncBody.stmts bd350) sc350 3 [] Value.none Value.none Value.none (Value.str (Str.ofString "law_no0507_01") 606) none (Value.ref 349) Value.none 0)) #[])
noncomputable abbrev o351 (P : Params) : Obj := (Obj.mk (Value.type "tuple") none (Data.seq #[]) #[])
noncomputable abbrev o352 (P : Params) : Obj := (Obj.mk Value.none none (Data.fields #[]) #[])
noncomputable abbrev o353 (P : Params) : Obj := (Obj.mk (Value.type "tuple") none (Data.seq #[]) #[])
noncomputable abbrev o354 (P : Params) : Obj := (Obj.mk (Value.type "tuple") none (Data.seq #[]) #[])
noncomputable abbrev o355 (P : Params) : Obj := (Obj.mk Value.none none (Data.func (FuncData.mk (Str.ofString "_law_faults") (Str.ofString "_law_faults") pa357 (FuncBody.stmts bd357) sc357 0 [] Value.none Value.none Value.none Value.none none Value.none Value.none 0)) #[])
noncomputable abbrev o356 (P : Params) : Obj := (Obj.mk (Value.type "code") none (Data.fields #[(Value.str (Str.ofString "_law_faults") 695), (Value.str (Str.ofString "_law_faults") 696), (Value.str (Str.ofString "/claim/cut.py") 697), (Value.int 360 0), (Value.int 0 0), (Value.int 0 0), (Value.int 0 0), (Value.int 3 0), (Value.ref 351), (Value.bool true), (Value.int 181 0), (Value.ref 352), Value.none, (Value.ref 353), (Value.ref 354), (Value.ref 355), (Value.int 698 0), (Value.int 360 0), (Value.str (Str.ofString "/claim/cut.py") 699)]) #[])
noncomputable abbrev o357 (P : Params) : Obj := (Obj.mk (Value.type "function") none (Data.func (FuncData.mk (Str.ofString "_law_faults") (Str.ofString "_law_faults") pa357 (FuncBody.stmts bd357) sc357 3 [] Value.none Value.none Value.none (Value.str (Str.ofString "law_no0507_01") 606) none (Value.ref 356) Value.none 0)) #[])
noncomputable abbrev o358 (P : Params) : Obj := (Obj.mk (Value.type "tuple") none (Data.seq #[]) #[])
noncomputable abbrev o359 (P : Params) : Obj := (Obj.mk Value.none none (Data.fields #[]) #[])
noncomputable abbrev o360 (P : Params) : Obj := (Obj.mk (Value.type "tuple") none (Data.seq #[(Value.str (Str.ofString "token") 704), (Value.str (Str.ofString "value") 705)] 0) #[])
noncomputable abbrev o361 (P : Params) : Obj := (Obj.mk (Value.type "tuple") none (Data.seq #[]) #[])
noncomputable abbrev o362 (P : Params) : Obj := (Obj.mk Value.none none (Data.func (FuncData.mk (Str.ofString "_law_told") (Str.ofString "_law_told") pa364 (FuncBody.stmts bd364) sc364 0 [] Value.none Value.none Value.none Value.none none Value.none Value.none 0)) #[])
noncomputable abbrev o363 (P : Params) : Obj := (Obj.mk (Value.type "code") none (Data.fields #[(Value.str (Str.ofString "_law_told") 701), (Value.str (Str.ofString "_law_told") 702), (Value.str (Str.ofString "/claim/cut.py") 703), (Value.int 362 0), (Value.int 1 0), (Value.int 0 0), (Value.int 0 0), (Value.int 3 0), (Value.ref 358), (Value.bool true), (Value.int 181 0), (Value.ref 359), Value.none, (Value.ref 360), (Value.ref 361), (Value.ref 362), (Value.int 706 0), (Value.int 362 0), (Value.str (Str.ofString "/claim/cut.py") 707)]) #[])
noncomputable abbrev o364 (P : Params) : Obj := (Obj.mk (Value.type "function") none (Data.func (FuncData.mk (Str.ofString "_law_told") (Str.ofString "_law_told") pa364 (FuncBody.stmts bd364) sc364 3 [] Value.none Value.none Value.none (Value.str (Str.ofString "law_no0507_01") 606) none (Value.ref 363) Value.none 0)) #[])
noncomputable abbrev o365 (P : Params) : Obj := (Obj.mk (Value.type "tuple") none (Data.seq #[]) #[])
noncomputable abbrev o366 (P : Params) : Obj := (Obj.mk Value.none none (Data.fields #[]) #[])
noncomputable abbrev o367 (P : Params) : Obj := (Obj.mk (Value.type "tuple") none (Data.seq #[(Value.str (Str.ofString "script") 712), (Value.str (Str.ofString "pool") 713), (Value.str (Str.ofString "wide") 714), (Value.str (Str.ofString "due") 715), (Value.str (Str.ofString "last") 716), (Value.str (Str.ofString "step") 717), (Value.str (Str.ofString "row") 718), (Value.str (Str.ofString "kind") 719), (Value.str (Str.ofString "value") 720), (Value.str (Str.ofString "wordy") 721), (Value.str (Str.ofString "must") 722), (Value.str (Str.ofString "gap") 723), (Value.str (Str.ofString "fault") 724), (Value.str (Str.ofString "inside") 725), (Value.str (Str.ofString "spot") 726), (Value.str (Str.ofString "lexer") 727), (Value.str (Str.ofString "wanted") 728), (Value.str (Str.ofString "token") 729), (Value.str (Str.ofString "error") 730)] 0) #[])
noncomputable abbrev o368 (P : Params) : Obj := (Obj.mk (Value.type "tuple") none (Data.seq #[]) #[])
noncomputable abbrev o369 (P : Params) : Obj := (Obj.mk Value.none none (Data.func (FuncData.mk (Str.ofString "law") (Str.ofString "law") pa371 (FuncBody.stmts bd371) sc371 0 [] Value.none Value.none Value.none Value.none none Value.none Value.none 0)) #[])
noncomputable abbrev o370 (P : Params) : Obj := (Obj.mk (Value.type "code") none (Data.fields #[(Value.str (Str.ofString "law") 709), (Value.str (Str.ofString "law") 710), (Value.str (Str.ofString "/claim/cut.py") 711), (Value.int 367 0), (Value.int 1 0), (Value.int 0 0), (Value.int 0 0), (Value.int 3 0), (Value.ref 365), (Value.bool true), (Value.int 181 0), (Value.ref 366), Value.none, (Value.ref 367), (Value.ref 368), (Value.ref 369), (Value.int 731 0), (Value.int 367 0), (Value.str (Str.ofString "/claim/cut.py") 732)]) #[])
noncomputable abbrev o371 (P : Params) : Obj := (Obj.mk (Value.type "function") none (Data.func (FuncData.mk (Str.ofString "law") (Str.ofString "law") pa371 (FuncBody.stmts bd371) sc371 3 [] Value.none Value.none Value.none (Value.str (Str.ofString "law_no0507_01") 606) none (Value.ref 370) Value.none 0)) #[])
noncomputable def lifeT : Life := (Life.mk [] [] [] 0 [] [] false #[] [] 0 false false false 0 [2000, 10, 10] false 0 true [] [] 0 false)
noncomputable abbrev hpp (P : Params) : Heap := ⟨⟨[o0 P, o1 P, o2 P, o3 P, o4 P, o5 P, o6 P, o7 P, o8 P, o9 P, o10 P, o11 P, o12 P, o13 P, o14 P]⟩, lifeT⟩
noncomputable abbrev hpA (P : Params) : Heap := ⟨⟨[o0 P, o1 P, o2v1 P, o3v1 P, o4 P, o5 P, o6 P, o7 P, o8 P, o9 P, o10 P, o11 P, o12v1 P, o13 P, o14 P, o15 P, o16 P, o17 P, o18 P, o19 P, o20 P, o21 P, o22 P, o23 P, o24 P, o25 P, o26 P, o27 P, o28 P, o29 P, o30 P, o31 P, o32 P, o33 P, o34 P, o35 P, o36 P, o37 P, o38 P, o39 P, o40 P, o41 P, o42 P, o43 P, o44 P, o45 P, o46 P, o47 P, o48 P, o49 P, o50 P, o51 P, o52 P, o53 P]⟩, lifeT⟩
noncomputable abbrev hpB (P : Params) : Heap := ⟨⟨[o0 P, o1 P, o2v1 P, o3v2 P, o4 P, o5 P, o6 P, o7 P, o8 P, o9 P, o10 P, o11 P, o12v2 P, o13 P, o14 P, o15 P, o16 P, o17 P, o18 P, o19 P, o20 P, o21 P, o22 P, o23 P, o24 P, o25 P, o26 P, o27 P, o28 P, o29 P, o30 P, o31 P, o32 P, o33 P, o34 P, o35 P, o36 P, o37 P, o38 P, o39 P, o40 P, o41 P, o42 P, o43 P, o44 P, o45 P, o46 P, o47 P, o48 P, o49 P, o50 P, o51 P, o52 P, o53 P, o54 P, o55 P, o56 P, o57 P, o58 P, o59 P, o60 P, o61 P, o62 P, o63 P, o64 P, o65 P, o66 P, o67 P, o68 P, o69 P, o70 P, o71 P, o72 P, o73 P, o74 P, o75 P, o76 P, o77 P, o78 P, o79 P, o80 P, o81 P, o82 P, o83 P, o84 P, o85 P, o86 P, o87 P, o88 P, o89 P, o90 P, o91 P, o92 P, o93 P, o94 P, o95 P, o96 P, o97 P, o98 P, o99 P, o100 P, o101 P, o102 P, o103 P, o104 P, o105 P, o106 P, o107 P, o108 P, o109 P, o110 P, o111 P, o112 P, o113 P, o114 P, o115 P, o116 P, o117 P, o118 P]⟩, lifeT⟩
noncomputable abbrev hpC (P : Params) : Heap := ⟨⟨[o0 P, o1 P, o2v1 P, o3v3 P, o4 P, o5 P, o6 P, o7 P, o8 P, o9 P, o10 P, o11 P, o12v3 P, o13 P, o14 P, o15 P, o16 P, o17 P, o18 P, o19 P, o20 P, o21 P, o22 P, o23 P, o24 P, o25 P, o26 P, o27 P, o28 P, o29 P, o30 P, o31 P, o32 P, o33 P, o34 P, o35 P, o36 P, o37 P, o38 P, o39 P, o40 P, o41 P, o42 P, o43 P, o44 P, o45 P, o46 P, o47 P, o48 P, o49 P, o50 P, o51 P, o52 P, o53 P, o54 P, o55 P, o56 P, o57 P, o58 P, o59 P, o60 P, o61 P, o62 P, o63 P, o64 P, o65 P, o66 P, o67 P, o68 P, o69 P, o70 P, o71 P, o72 P, o73 P, o74 P, o75 P, o76 P, o77 P, o78 P, o79 P, o80 P, o81 P, o82 P, o83 P, o84 P, o85 P, o86 P, o87 P, o88 P, o89 P, o90 P, o91 P, o92 P, o93 P, o94 P, o95 P, o96 P, o97 P, o98 P, o99 P, o100 P, o101 P, o102 P, o103 P, o104 P, o105 P, o106 P, o107 P, o108 P, o109 P, o110 P, o111 P, o112 P, o113 P, o114 P, o115 P, o116 P, o117 P, o118 P, o119 P, o120 P, o121 P, o122 P, o123 P, o124 P, o125 P, o126 P, o127 P, o128 P, o129 P, o130 P, o131 P, o132 P, o133 P, o134 P, o135 P, o136 P, o137 P, o138 P, o139 P, o140 P, o141 P, o142 P, o143 P, o144 P, o145 P, o146 P, o147 P, o148 P, o149 P, o150 P, o151 P, o152 P, o153 P, o154 P, o155 P, o156 P, o157 P, o158 P, o159 P, o160 P, o161 P, o162 P, o163 P, o164 P, o165 P, o166 P, o167 P]⟩, lifeT⟩
noncomputable abbrev hpD (P : Params) : Heap := ⟨⟨[o0 P, o1 P, o2v1 P, o3v4 P, o4 P, o5 P, o6 P, o7 P, o8 P, o9 P, o10 P, o11 P, o12v4 P, o13 P, o14 P, o15 P, o16 P, o17 P, o18 P, o19 P, o20 P, o21 P, o22 P, o23 P, o24 P, o25 P, o26 P, o27 P, o28 P, o29 P, o30 P, o31 P, o32 P, o33 P, o34 P, o35 P, o36 P, o37 P, o38 P, o39 P, o40 P, o41 P, o42 P, o43 P, o44 P, o45 P, o46 P, o47 P, o48 P, o49 P, o50 P, o51 P, o52 P, o53 P, o54 P, o55 P, o56 P, o57 P, o58 P, o59 P, o60 P, o61 P, o62 P, o63 P, o64 P, o65 P, o66 P, o67 P, o68 P, o69 P, o70 P, o71 P, o72 P, o73 P, o74 P, o75 P, o76 P, o77 P, o78 P, o79 P, o80 P, o81 P, o82 P, o83 P, o84 P, o85 P, o86 P, o87 P, o88 P, o89 P, o90 P, o91 P, o92 P, o93 P, o94 P, o95 P, o96 P, o97 P, o98 P, o99 P, o100 P, o101 P, o102 P, o103 P, o104 P, o105 P, o106 P, o107 P, o108 P, o109 P, o110 P, o111 P, o112 P, o113 P, o114 P, o115 P, o116 P, o117 P, o118 P, o119 P, o120 P, o121 P, o122 P, o123 P, o124 P, o125 P, o126 P, o127 P, o128 P, o129 P, o130 P, o131 P, o132 P, o133 P, o134 P, o135 P, o136 P, o137 P, o138 P, o139 P, o140 P, o141 P, o142 P, o143 P, o144 P, o145 P, o146 P, o147 P, o148 P, o149 P, o150 P, o151 P, o152 P, o153 P, o154 P, o155 P, o156 P, o157 P, o158 P, o159 P, o160 P, o161 P, o162 P, o163 P, o164 P, o165 P, o166 P, o167 P, o168 P, o169 P, o170 P, o171 P, o172 P, o173 P, o174 P, o175 P, o176 P, o177 P, o178 P, o179 P, o180 P, o181 P, o182 P, o183 P, o184 P, o185 P, o186 P, o187 P, o188 P, o189 P, o190 P, o191 P, o192 P, o193 P, o194 P, o195 P, o196 P, o197 P, o198 P, o199 P, o200 P, o201 P, o202 P, o203 P, o204 P, o205 P, o206 P, o207 P, o208 P, o209 P, o210 P, o211 P, o212 P, o213 P, o214 P, o215 P, o216 P, o217 P, o218 P, o219 P, o220 P, o221 P, o222 P, o223 P, o224 P, o225 P, o226 P, o227 P, o228 P, o229 P, o230 P, o231 P, o232 P, o233 P, o234 P, o235 P, o236 P, o237 P, o238 P, o239 P, o240 P, o241 P, o242 P, o243 P, o244 P, o245 P, o246 P, o247 P, o248 P, o249 P, o250 P, o251 P, o252 P, o253 P, o254 P, o255 P, o256 P, o257 P, o258 P, o259 P, o260 P, o261 P, o262 P, o263 P, o264 P, o265 P, o266 P, o267 P, o268 P, o269 P, o270 P, o271 P, o272 P, o273 P, o274 P, o275 P, o276 P, o277 P, o278 P, o279 P, o280 P, o281 P, o282 P, o283 P, o284 P, o285 P, o286 P, o287 P, o288 P, o289 P, o290 P, o291 P, o292 P, o293 P, o294 P, o295 P, o296 P, o297 P, o298 P, o299 P, o300 P, o301 P]⟩, lifeT⟩
noncomputable abbrev hpE (P : Params) : Heap := ⟨⟨[o0 P, o1 P, o2v1 P, o3v5 P, o4 P, o5 P, o6 P, o7 P, o8 P, o9 P, o10 P, o11 P, o12v5 P, o13 P, o14 P, o15 P, o16 P, o17 P, o18 P, o19 P, o20 P, o21 P, o22 P, o23 P, o24 P, o25 P, o26 P, o27 P, o28 P, o29 P, o30 P, o31 P, o32 P, o33 P, o34 P, o35 P, o36 P, o37 P, o38 P, o39 P, o40 P, o41 P, o42 P, o43 P, o44 P, o45 P, o46 P, o47 P, o48 P, o49 P, o50 P, o51 P, o52 P, o53 P, o54 P, o55 P, o56 P, o57 P, o58 P, o59 P, o60 P, o61 P, o62 P, o63 P, o64 P, o65 P, o66 P, o67 P, o68 P, o69 P, o70 P, o71 P, o72 P, o73 P, o74 P, o75 P, o76 P, o77 P, o78 P, o79 P, o80 P, o81 P, o82 P, o83 P, o84 P, o85 P, o86 P, o87 P, o88 P, o89 P, o90 P, o91 P, o92 P, o93 P, o94 P, o95 P, o96 P, o97 P, o98 P, o99 P, o100 P, o101 P, o102 P, o103 P, o104 P, o105 P, o106 P, o107 P, o108 P, o109 P, o110 P, o111 P, o112 P, o113 P, o114 P, o115 P, o116 P, o117 P, o118 P, o119 P, o120 P, o121 P, o122 P, o123 P, o124 P, o125 P, o126 P, o127 P, o128 P, o129 P, o130 P, o131 P, o132 P, o133 P, o134 P, o135 P, o136 P, o137 P, o138 P, o139 P, o140 P, o141 P, o142 P, o143 P, o144 P, o145 P, o146 P, o147 P, o148 P, o149 P, o150 P, o151 P, o152 P, o153 P, o154 P, o155 P, o156 P, o157 P, o158 P, o159 P, o160 P, o161 P, o162 P, o163 P, o164 P, o165 P, o166 P, o167 P, o168 P, o169 P, o170 P, o171 P, o172 P, o173 P, o174 P, o175 P, o176 P, o177 P, o178 P, o179 P, o180 P, o181 P, o182 P, o183 P, o184 P, o185 P, o186 P, o187 P, o188 P, o189 P, o190 P, o191 P, o192 P, o193 P, o194 P, o195 P, o196 P, o197 P, o198 P, o199 P, o200 P, o201 P, o202 P, o203 P, o204 P, o205 P, o206 P, o207 P, o208 P, o209 P, o210 P, o211 P, o212 P, o213 P, o214 P, o215 P, o216 P, o217 P, o218 P, o219 P, o220 P, o221 P, o222 P, o223 P, o224 P, o225 P, o226 P, o227 P, o228 P, o229 P, o230 P, o231 P, o232 P, o233 P, o234 P, o235 P, o236 P, o237 P, o238 P, o239 P, o240 P, o241 P, o242 P, o243 P, o244 P, o245 P, o246 P, o247 P, o248 P, o249 P, o250 P, o251 P, o252 P, o253 P, o254 P, o255 P, o256 P, o257 P, o258 P, o259 P, o260 P, o261 P, o262 P, o263 P, o264 P, o265 P, o266 P, o267 P, o268 P, o269 P, o270 P, o271 P, o272 P, o273 P, o274 P, o275 P, o276 P, o277 P, o278 P, o279 P, o280 P, o281 P, o282 P, o283 P, o284 P, o285 P, o286 P, o287 P, o288 P, o289 P, o290 P, o291 P, o292 P, o293 P, o294 P, o295 P, o296 P, o297 P, o298 P, o299 P, o300 P, o301 P, o302 P, o303 P, o304 P, o305 P, o306 P, o307 P, o308 P, o309 P, o310 P, o311 P, o312 P, o313 P, o314 P, o315 P, o316 P, o317 P, o318 P, o319 P, o320 P, o321 P, o322 P, o323 P, o324 P, o325 P, o326 P, o327 P, o328 P, o329 P, o330 P, o331 P, o332 P, o333 P, o334 P, o335 P, o336 P, o337 P, o338 P, o339 P, o340 P, o341 P, o342 P, o343 P, o344 P, o345 P, o346 P, o347 P, o348 P, o349 P, o350 P, o351 P, o352 P, o353 P, o354 P, o355 P, o356 P, o357 P, o358 P, o359 P, o360 P, o361 P, o362 P, o363 P, o364 P, o365 P, o366 P, o367 P, o368 P, o369 P, o370 P, o371 P]⟩, lifeT⟩
noncomputable abbrev pwT : Program := PySem.Challenge.pw_no0507_01
noncomputable def envT : Env := { scope := pwT.main.scope, locals := mainNs, globals := mainNs, cells := [], code := .ref 13, frame := some 14 }
noncomputable abbrev codT : Code := .body (behindTheImports pwT) envT
abbrev annT : Option Value := some (.ref 6)
abbrev frT : List Frame := [topFrame ⟨0, 0, 0, 0⟩]
noncomputable abbrev cutT (i n : Nat) : List Stmt := (pwT.main.body.drop i).take n
theorem open_ : ∀ w : World, (fencedOpening treeTable pwT w 4956).map (fun s => (s.heap, s.gens, s.drawn, s.toks)) = some (boot_heap w.params, Array.mk [], boot_drawn, boot_toks) :=
  boot_open (by kernel_rfl) rfl (fun s => by kernel_rfl)
theorem size_ : ∀ w : World, ((boot_heap w.params).isNs mainGlobals && (#[] : Array GenState).size == 0, (boot_heap w.params).objs.size, (boot_heap w.params).nsMap mainGlobals "__annotations__") = (true, 11, annT) := fun w => by kernel_rfl
theorem pre_ (w : World) (os : OsState) : topGo treeTable pwT w 11 annT 12 ⟨boot_heap w.params, #[], boot_drawn, boot_toks, os⟩ (topStub pwT) = some (⟨hpp w.params, #[], boot_drawn, 187, os⟩, ⟨denote treeTable codT, codT, ⟨0, 0, 0, 0⟩, frT⟩) := by
  kernel_rfl
theorem blk_ (w : World) (os : OsState) : segRun treeTable pwT w 11 annT 1 1 ⟨hpp w.params, #[], boot_drawn, 187, os⟩ (blockOf (behindTheImports pwT) envT codT ⟨0, 0, 0, 0⟩ frT) = some (.next, ⟨hpp w.params, #[], boot_drawn, 187, os⟩, codT, ⟨0, 0, 0, 0⟩) := by
  kernel_rfl
theorem runA_ (w : World) (os : OsState) : segRun treeTable pwT w 11 annT 1 482 ⟨hpp w.params, #[], boot_drawn, 187, os⟩ (piecesOf (cutT 0 4) envT codT ⟨0, 0, 0, 0⟩ frT) = some (.next, ⟨hpA w.params, #[], boot_drawn, 243, os⟩, codT, ⟨7, 0, 11, 20⟩) := by
  rw [PySem.W.Fast.te14374325043358763698, PySem.W.Fast.te14364793385576792824]
  kernel_rfl
theorem runB_ (w : World) (os : OsState) : segRun treeTable pwT w 11 annT 1 588 ⟨hpA w.params, #[], boot_drawn, 243, os⟩ (piecesOf (cutT 4 8) envT codT ⟨7, 0, 11, 20⟩ frT) = some (.next, ⟨hpB w.params, #[], boot_drawn, 346, os⟩, codT, ⟨35, 0, 41, 30⟩) := by
  rw [PySem.W.Fast.te14374325043358763698, PySem.W.Fast.te14364793385576792824]
  kernel_rfl
theorem runC_ (w : World) (os : OsState) : segRun treeTable pwT w 11 annT 1 206 ⟨hpB w.params, #[], boot_drawn, 346, os⟩ (piecesOf (cutT 12 7) envT codT ⟨35, 0, 41, 30⟩ frT) = some (.next, ⟨hpC w.params, #[], boot_drawn, 397, os⟩, codT, ⟨61, 0, 65, 16⟩) := by
  rw [PySem.W.Fast.te14374325043358763698, PySem.W.Fast.te14364793385576792824]
  kernel_rfl
theorem runD_ (w : World) (os : OsState) : segRun treeTable pwT w 11 annT 1 788 ⟨hpC w.params, #[], boot_drawn, 397, os⟩ (piecesOf (cutT 19 1) envT codT ⟨61, 0, 65, 16⟩ frT) = some (.next, ⟨hpD w.params, #[], boot_drawn, 606, os⟩, codT, ⟨66, 0, 269, 82⟩) := by
  rw [PySem.W.Fast.te14374325043358763698, PySem.W.Fast.te14364793385576792824]
  kernel_rfl
theorem runE_ (w : World) (os : OsState) : segRun treeTable pwT w 11 annT 1 356 ⟨hpD w.params, #[], boot_drawn, 606, os⟩ (piecesOf (cutT 20 11) envT codT ⟨66, 0, 269, 82⟩ frT) = some (.next, ⟨hpE w.params, #[], boot_drawn, 734, os⟩, codT, ⟨367, 0, 401, 15⟩) := by
  rw [PySem.W.Fast.te14374325043358763698, PySem.W.Fast.te14364793385576792824]
  kernel_rfl
theorem fin_ (w : World) (os : OsState) : topRun treeTable pwT w 11 annT 2 ⟨hpE w.params, #[], boot_drawn, 734, os⟩ ⟨doneF .next, codT, ⟨367, 0, 401, 15⟩, frT⟩ = some ⟨hpE w.params, #[], boot_drawn, 734, os⟩ := by
  kernel_rfl
theorem body_ : behindTheImports pwT = cutT 0 4 ++ (cutT 4 8 ++ (cutT 12 7 ++ (cutT 19 1 ++ (cutT 20 11 ++ [])))) := by
  kernel_rfl
theorem run_ (w : World) (os : OsState) : topRun treeTable pwT w 11 annT (12 + (1 + (482 + (588 + (206 + (788 + (356 + 2))))))) ⟨boot_heap w.params, #[], boot_drawn, boot_toks, os⟩ (topStub pwT) = some ⟨hpE w.params, #[], boot_drawn, 734, os⟩ := by
  refine go_top (pre_ w os) (piece_block (blk_ w os) ?_)
  rw [body_]
  exact piece_app (runA_ w os) (piece_app (runB_ w os) (piece_app (runC_ w os) (piece_app (runD_ w os) (piece_app (runE_ w os) (fin_ w os)))))
abbrev lsT : List Str := [Str.ofString "number"]
noncomputable abbrev qT : Program := hd.view_39
noncomputable abbrev sT (w : World) (os : OsState) : Shared := ⟨hpE w.params, #[], boot_drawn, 734, os⟩
noncomputable abbrev hdXt (s : Shared) : Bool := xlAt hd.view_39 [] s && recOk PySem.Challenge.rw_no0507_01.row.records s
theorem lk1 (w : World) (os : OsState) : staticsOk (importedModules pwT.main.body) (boot_heap w.params) (hpE w.params) = true := by kernel_rfl
theorem lk2 (w : World) (os : OsState) : namesBound pwT (hpE w.params) = true := by kernel_rfl
theorem lk3 (w : World) (os : OsState) : gensDone (sT w os) = true := by kernel_rfl
theorem lk4 (w : World) (os : OsState) : laidKept (boot_heap w.params) (hpE w.params) = true := by kernel_rfl
theorem lk5 (w : World) (os : OsState) : seen ((recsOf qT).map (·.name)) (ownsOf qT) [] { sT w os with gens := #[] } = expectedOf qT := by
  (try rw [PySem.W.Fast.te5160383126252970620]); (try rw [PySem.W.Fast.te10880121769531294198]); (try rw [PySem.W.Fast.te14722251495701143533]); (try rw [PySem.W.Fast.te10994771534591457954]); (try rw [PySem.W.Fast.te479339242167458305]); (try rw [PySem.W.Fast.te16090120013241838585]); (try rw [PySem.W.Fast.te2386780881361962483]); (try rw [PySem.W.Fast.te11698064438423848299]); (try rw [PySem.W.Fast.te7317090234206586261]); (try rw [PySem.W.Fast.te7369524293546568484]); (try rw [PySem.W.Fast.te5991557255702980513]); (try rw [PySem.W.Fast.te3247288618530077131]); (try rw [PySem.W.Fast.te821141287760084731]); (try rw [PySem.W.Fast.te3399658132070893891]); (try rw [PySem.W.Fast.te7409074990110511671]); (try rw [PySem.W.Fast.te13664370479719496447]); kernel_rfl
theorem lk6 (w : World) (os : OsState) : (sT w os).heap.bltView = bltViewBooted := by
  (try rw [PySem.W.Fast.te5160383126252970620]); (try rw [PySem.W.Fast.te10880121769531294198]); (try rw [PySem.W.Fast.te14722251495701143533]); (try rw [PySem.W.Fast.te10994771534591457954]); (try rw [PySem.W.Fast.te479339242167458305]); (try rw [PySem.W.Fast.te16090120013241838585]); (try rw [PySem.W.Fast.te2386780881361962483]); (try rw [PySem.W.Fast.te11698064438423848299]); (try rw [PySem.W.Fast.te7317090234206586261]); (try rw [PySem.W.Fast.te7369524293546568484]); (try rw [PySem.W.Fast.te5991557255702980513]); (try rw [PySem.W.Fast.te3247288618530077131]); (try rw [PySem.W.Fast.te821141287760084731]); (try rw [PySem.W.Fast.te3399658132070893891]); (try rw [PySem.W.Fast.te7409074990110511671]); (try rw [PySem.W.Fast.te13664370479719496447]); kernel_rfl
theorem lk7 (w : World) (os : OsState) : (sT w os).heap.keysOk (looseW qT lsT) ((recsOf qT).map (·.name)) ((litsOf qT).map (·.1)) ((clssOf qT (looseW qT lsT)).map (·.name)) = true := by
  (try rw [PySem.W.Fast.te5160383126252970620]); (try rw [PySem.W.Fast.te10880121769531294198]); (try rw [PySem.W.Fast.te14722251495701143533]); (try rw [PySem.W.Fast.te10994771534591457954]); (try rw [PySem.W.Fast.te479339242167458305]); (try rw [PySem.W.Fast.te16090120013241838585]); (try rw [PySem.W.Fast.te2386780881361962483]); (try rw [PySem.W.Fast.te11698064438423848299]); (try rw [PySem.W.Fast.te7317090234206586261]); (try rw [PySem.W.Fast.te7369524293546568484]); (try rw [PySem.W.Fast.te5991557255702980513]); (try rw [PySem.W.Fast.te3247288618530077131]); (try rw [PySem.W.Fast.te821141287760084731]); (try rw [PySem.W.Fast.te3399658132070893891]); (try rw [PySem.W.Fast.te7409074990110511671]); (try rw [PySem.W.Fast.te13664370479719496447]); kernel_rfl
theorem lk8 (w : World) (os : OsState) : (sT w os).heap.accountedOkI (importedModules pwT.main.body) = true := by
  (try rw [PySem.W.Fast.te5160383126252970620]); (try rw [PySem.W.Fast.te10880121769531294198]); (try rw [PySem.W.Fast.te14722251495701143533]); (try rw [PySem.W.Fast.te10994771534591457954]); (try rw [PySem.W.Fast.te479339242167458305]); (try rw [PySem.W.Fast.te16090120013241838585]); (try rw [PySem.W.Fast.te2386780881361962483]); (try rw [PySem.W.Fast.te11698064438423848299]); (try rw [PySem.W.Fast.te7317090234206586261]); (try rw [PySem.W.Fast.te7369524293546568484]); (try rw [PySem.W.Fast.te5991557255702980513]); (try rw [PySem.W.Fast.te3247288618530077131]); (try rw [PySem.W.Fast.te821141287760084731]); (try rw [PySem.W.Fast.te3399658132070893891]); (try rw [PySem.W.Fast.te7409074990110511671]); (try rw [PySem.W.Fast.te13664370479719496447]); kernel_rfl
theorem lk9 (w : World) (os : OsState) : (sT w os).heap.isNs mainGlobals = true := by
  (try rw [PySem.W.Fast.te5160383126252970620]); (try rw [PySem.W.Fast.te10880121769531294198]); (try rw [PySem.W.Fast.te14722251495701143533]); (try rw [PySem.W.Fast.te10994771534591457954]); (try rw [PySem.W.Fast.te479339242167458305]); (try rw [PySem.W.Fast.te16090120013241838585]); (try rw [PySem.W.Fast.te2386780881361962483]); (try rw [PySem.W.Fast.te11698064438423848299]); (try rw [PySem.W.Fast.te7317090234206586261]); (try rw [PySem.W.Fast.te7369524293546568484]); (try rw [PySem.W.Fast.te5991557255702980513]); (try rw [PySem.W.Fast.te3247288618530077131]); (try rw [PySem.W.Fast.te821141287760084731]); (try rw [PySem.W.Fast.te3399658132070893891]); (try rw [PySem.W.Fast.te7409074990110511671]); (try rw [PySem.W.Fast.te13664370479719496447]); kernel_rfl
theorem lk10 (w : World) (os : OsState) : (sT w os).heap.isNs builtinsNs = true := by
  (try rw [PySem.W.Fast.te5160383126252970620]); (try rw [PySem.W.Fast.te10880121769531294198]); (try rw [PySem.W.Fast.te14722251495701143533]); (try rw [PySem.W.Fast.te10994771534591457954]); (try rw [PySem.W.Fast.te479339242167458305]); (try rw [PySem.W.Fast.te16090120013241838585]); (try rw [PySem.W.Fast.te2386780881361962483]); (try rw [PySem.W.Fast.te11698064438423848299]); (try rw [PySem.W.Fast.te7317090234206586261]); (try rw [PySem.W.Fast.te7369524293546568484]); (try rw [PySem.W.Fast.te5991557255702980513]); (try rw [PySem.W.Fast.te3247288618530077131]); (try rw [PySem.W.Fast.te821141287760084731]); (try rw [PySem.W.Fast.te3399658132070893891]); (try rw [PySem.W.Fast.te7409074990110511671]); (try rw [PySem.W.Fast.te13664370479719496447]); kernel_rfl
theorem lk11 (w : World) (os : OsState) : tablesOk qT (sT w os).heap = true := by
  (try rw [PySem.W.Fast.te5160383126252970620]); (try rw [PySem.W.Fast.te10880121769531294198]); (try rw [PySem.W.Fast.te14722251495701143533]); (try rw [PySem.W.Fast.te10994771534591457954]); (try rw [PySem.W.Fast.te479339242167458305]); (try rw [PySem.W.Fast.te16090120013241838585]); (try rw [PySem.W.Fast.te2386780881361962483]); (try rw [PySem.W.Fast.te11698064438423848299]); (try rw [PySem.W.Fast.te7317090234206586261]); (try rw [PySem.W.Fast.te7369524293546568484]); (try rw [PySem.W.Fast.te5991557255702980513]); (try rw [PySem.W.Fast.te3247288618530077131]); (try rw [PySem.W.Fast.te821141287760084731]); (try rw [PySem.W.Fast.te3399658132070893891]); (try rw [PySem.W.Fast.te7409074990110511671]); (try rw [PySem.W.Fast.te13664370479719496447]); kernel_rfl
theorem lk12 (w : World) (os : OsState) : xlAt qT [] (sT w os) = true := by
  (try rw [PySem.W.Fast.te5160383126252970620]); (try rw [PySem.W.Fast.te10880121769531294198]); (try rw [PySem.W.Fast.te14722251495701143533]); (try rw [PySem.W.Fast.te10994771534591457954]); (try rw [PySem.W.Fast.te479339242167458305]); (try rw [PySem.W.Fast.te16090120013241838585]); (try rw [PySem.W.Fast.te2386780881361962483]); (try rw [PySem.W.Fast.te11698064438423848299]); (try rw [PySem.W.Fast.te7317090234206586261]); (try rw [PySem.W.Fast.te7369524293546568484]); (try rw [PySem.W.Fast.te5991557255702980513]); (try rw [PySem.W.Fast.te3247288618530077131]); (try rw [PySem.W.Fast.te821141287760084731]); (try rw [PySem.W.Fast.te3399658132070893891]); (try rw [PySem.W.Fast.te7409074990110511671]); (try rw [PySem.W.Fast.te13664370479719496447]); kernel_rfl
theorem lk13 (w : World) (os : OsState) : recOk PySem.Challenge.rw_no0507_01.row.records (sT w os) = true := by
  (try rw [PySem.W.Fast.te5160383126252970620]); (try rw [PySem.W.Fast.te10880121769531294198]); (try rw [PySem.W.Fast.te14722251495701143533]); (try rw [PySem.W.Fast.te10994771534591457954]); (try rw [PySem.W.Fast.te479339242167458305]); (try rw [PySem.W.Fast.te16090120013241838585]); (try rw [PySem.W.Fast.te2386780881361962483]); (try rw [PySem.W.Fast.te11698064438423848299]); (try rw [PySem.W.Fast.te7317090234206586261]); (try rw [PySem.W.Fast.te7369524293546568484]); (try rw [PySem.W.Fast.te5991557255702980513]); (try rw [PySem.W.Fast.te3247288618530077131]); (try rw [PySem.W.Fast.te821141287760084731]); (try rw [PySem.W.Fast.te3399658132070893891]); (try rw [PySem.W.Fast.te7409074990110511671]); (try rw [PySem.W.Fast.te13664370479719496447]); kernel_rfl
theorem lk14 (w : World) (os : OsState) : (if true then (sT w os).gens.size == 0 else !leftWithCleanup (sT w os).gens) = true := by
  (try rw [PySem.W.Fast.te5160383126252970620]); (try rw [PySem.W.Fast.te10880121769531294198]); (try rw [PySem.W.Fast.te14722251495701143533]); (try rw [PySem.W.Fast.te10994771534591457954]); (try rw [PySem.W.Fast.te479339242167458305]); (try rw [PySem.W.Fast.te16090120013241838585]); (try rw [PySem.W.Fast.te2386780881361962483]); (try rw [PySem.W.Fast.te11698064438423848299]); (try rw [PySem.W.Fast.te7317090234206586261]); (try rw [PySem.W.Fast.te7369524293546568484]); (try rw [PySem.W.Fast.te5991557255702980513]); (try rw [PySem.W.Fast.te3247288618530077131]); (try rw [PySem.W.Fast.te821141287760084731]); (try rw [PySem.W.Fast.te3399658132070893891]); (try rw [PySem.W.Fast.te7409074990110511671]); (try rw [PySem.W.Fast.te13664370479719496447]); kernel_rfl
theorem lk15 (w : World) (os : OsState) : tabsOk qT (sT w os) = true := by
  (try rw [PySem.W.Fast.te5160383126252970620]); (try rw [PySem.W.Fast.te10880121769531294198]); (try rw [PySem.W.Fast.te14722251495701143533]); (try rw [PySem.W.Fast.te10994771534591457954]); (try rw [PySem.W.Fast.te479339242167458305]); (try rw [PySem.W.Fast.te16090120013241838585]); (try rw [PySem.W.Fast.te2386780881361962483]); (try rw [PySem.W.Fast.te11698064438423848299]); (try rw [PySem.W.Fast.te7317090234206586261]); (try rw [PySem.W.Fast.te7369524293546568484]); (try rw [PySem.W.Fast.te5991557255702980513]); (try rw [PySem.W.Fast.te3247288618530077131]); (try rw [PySem.W.Fast.te821141287760084731]); (try rw [PySem.W.Fast.te3399658132070893891]); (try rw [PySem.W.Fast.te7409074990110511671]); (try rw [PySem.W.Fast.te13664370479719496447]); kernel_rfl
theorem lk16 (w : World) (os : OsState) : pinSeenD qT (drecsOf qT) (sT w os) = pinGoodD (drecsOf qT) := by
  (try rw [PySem.W.Fast.te5160383126252970620]); (try rw [PySem.W.Fast.te10880121769531294198]); (try rw [PySem.W.Fast.te14722251495701143533]); (try rw [PySem.W.Fast.te10994771534591457954]); (try rw [PySem.W.Fast.te479339242167458305]); (try rw [PySem.W.Fast.te16090120013241838585]); (try rw [PySem.W.Fast.te2386780881361962483]); (try rw [PySem.W.Fast.te11698064438423848299]); (try rw [PySem.W.Fast.te7317090234206586261]); (try rw [PySem.W.Fast.te7369524293546568484]); (try rw [PySem.W.Fast.te5991557255702980513]); (try rw [PySem.W.Fast.te3247288618530077131]); (try rw [PySem.W.Fast.te821141287760084731]); (try rw [PySem.W.Fast.te3399658132070893891]); (try rw [PySem.W.Fast.te7409074990110511671]); (try rw [PySem.W.Fast.te13664370479719496447]); kernel_rfl
theorem lk17 (w : World) (os : OsState) : plainSeenE qT (looseW qT lsT) (sT w os) = plainGoodE qT (looseW qT lsT) := by
  (try rw [PySem.W.Fast.te5160383126252970620]); (try rw [PySem.W.Fast.te10880121769531294198]); (try rw [PySem.W.Fast.te14722251495701143533]); (try rw [PySem.W.Fast.te10994771534591457954]); (try rw [PySem.W.Fast.te479339242167458305]); (try rw [PySem.W.Fast.te16090120013241838585]); (try rw [PySem.W.Fast.te2386780881361962483]); (try rw [PySem.W.Fast.te11698064438423848299]); (try rw [PySem.W.Fast.te7317090234206586261]); (try rw [PySem.W.Fast.te7369524293546568484]); (try rw [PySem.W.Fast.te5991557255702980513]); (try rw [PySem.W.Fast.te3247288618530077131]); (try rw [PySem.W.Fast.te821141287760084731]); (try rw [PySem.W.Fast.te3399658132070893891]); (try rw [PySem.W.Fast.te7409074990110511671]); (try rw [PySem.W.Fast.te13664370479719496447]); kernel_rfl
theorem lk18 (w : World) (os : OsState) : plainSeenD qT lsT (sT w os) = plainGoodD qT lsT := by
  (try rw [PySem.W.Fast.te5160383126252970620]); (try rw [PySem.W.Fast.te10880121769531294198]); (try rw [PySem.W.Fast.te14722251495701143533]); (try rw [PySem.W.Fast.te10994771534591457954]); (try rw [PySem.W.Fast.te479339242167458305]); (try rw [PySem.W.Fast.te16090120013241838585]); (try rw [PySem.W.Fast.te2386780881361962483]); (try rw [PySem.W.Fast.te11698064438423848299]); (try rw [PySem.W.Fast.te7317090234206586261]); (try rw [PySem.W.Fast.te7369524293546568484]); (try rw [PySem.W.Fast.te5991557255702980513]); (try rw [PySem.W.Fast.te3247288618530077131]); (try rw [PySem.W.Fast.te821141287760084731]); (try rw [PySem.W.Fast.te3399658132070893891]); (try rw [PySem.W.Fast.te7409074990110511671]); (try rw [PySem.W.Fast.te13664370479719496447]); kernel_rfl
theorem lk19 (w : World) (os : OsState) : wideSeen qT (sT w os) = wideGood qT := by
  (try rw [PySem.W.Fast.te5160383126252970620]); (try rw [PySem.W.Fast.te10880121769531294198]); (try rw [PySem.W.Fast.te14722251495701143533]); (try rw [PySem.W.Fast.te10994771534591457954]); (try rw [PySem.W.Fast.te479339242167458305]); (try rw [PySem.W.Fast.te16090120013241838585]); (try rw [PySem.W.Fast.te2386780881361962483]); (try rw [PySem.W.Fast.te11698064438423848299]); (try rw [PySem.W.Fast.te7317090234206586261]); (try rw [PySem.W.Fast.te7369524293546568484]); (try rw [PySem.W.Fast.te5991557255702980513]); (try rw [PySem.W.Fast.te3247288618530077131]); (try rw [PySem.W.Fast.te821141287760084731]); (try rw [PySem.W.Fast.te3399658132070893891]); (try rw [PySem.W.Fast.te7409074990110511671]); (try rw [PySem.W.Fast.te13664370479719496447]); kernel_rfl
theorem lk20 (w : World) (os : OsState) : clsSeenW qT lsT (sT w os) = clsGoodW qT lsT := by
  (try rw [PySem.W.Fast.te5160383126252970620]); (try rw [PySem.W.Fast.te10880121769531294198]); (try rw [PySem.W.Fast.te14722251495701143533]); (try rw [PySem.W.Fast.te10994771534591457954]); (try rw [PySem.W.Fast.te479339242167458305]); (try rw [PySem.W.Fast.te16090120013241838585]); (try rw [PySem.W.Fast.te2386780881361962483]); (try rw [PySem.W.Fast.te11698064438423848299]); (try rw [PySem.W.Fast.te7317090234206586261]); (try rw [PySem.W.Fast.te7369524293546568484]); (try rw [PySem.W.Fast.te5991557255702980513]); (try rw [PySem.W.Fast.te3247288618530077131]); (try rw [PySem.W.Fast.te821141287760084731]); (try rw [PySem.W.Fast.te3399658132070893891]); (try rw [PySem.W.Fast.te7409074990110511671]); (try rw [PySem.W.Fast.te13664370479719496447]); kernel_rfl
theorem lk21 (w : World) (os : OsState) : AS.map (sT w os).heap.get? = (hd.heap_39 w.params).map fun p => some p.2 := by
  (try rw [PySem.W.Fast.te5160383126252970620]); (try rw [PySem.W.Fast.te10880121769531294198]); (try rw [PySem.W.Fast.te14722251495701143533]); (try rw [PySem.W.Fast.te10994771534591457954]); (try rw [PySem.W.Fast.te479339242167458305]); (try rw [PySem.W.Fast.te16090120013241838585]); (try rw [PySem.W.Fast.te2386780881361962483]); (try rw [PySem.W.Fast.te11698064438423848299]); (try rw [PySem.W.Fast.te7317090234206586261]); (try rw [PySem.W.Fast.te7369524293546568484]); (try rw [PySem.W.Fast.te5991557255702980513]); (try rw [PySem.W.Fast.te3247288618530077131]); (try rw [PySem.W.Fast.te821141287760084731]); (try rw [PySem.W.Fast.te3399658132070893891]); (try rw [PySem.W.Fast.te7409074990110511671]); (try rw [PySem.W.Fast.te13664370479719496447]); kernel_rfl
theorem lkS (w : World) (os : OsState) : openSeen qT lsT (importedModules pwT.main.body) hdXt true (sT w os) = openGood qT lsT :=
  looks_pair (lk5 w os) (looks_pair (lk6 w os) (looks_pair (look_both (look_both (look_both (look_both (look_both (look_both (lk7 w os) (lk8 w os)) (lk9 w os)) (lk10 w os)) (lk11 w os)) (look_both (lk12 w os) (lk13 w os))) (lk14 w os)) (looks_pair (lk15 w os) (looks_pair (lk16 w os) (looks_pair (lk17 w os) (looks_pair (lk18 w os) (looks_pair (lk19 w os) (lk20 w os))))))))
theorem left_ : LeftO PySem.Challenge.pw_no0507_01 hd.view_39 [Str.ofString "number"] hdXt (fun s => AS.map s.heap.get?) (fun w => (hd.heap_39 w.params).map fun p => some p.2) 4956 :=
  LeftO.of_pieces (H₀ := boot_heap) (H₁ := hpE) (gs₀ := Array.mk []) (gs₁ := #[]) (d₀ := boot_drawn) (d₁ := boot_drawn) (k₀ := boot_toks) (k₁ := 734) (m₀ := 11) (ann := annT) (M := 12 + (1 + (482 + (588 + (206 + (788 + (356 + 2))))))) open_ size_ run_ rfl
    fun w => funext fun os => looks_pair (look_both (look_both (look_both (lk1 w os) (lk2 w os)) (lk3 w os)) (lk4 w os)) (looks_pair (lkS w os) (lk21 w os))
theorem said_ : PySem.Challenge.rw_no0507_01.wellSaid = true := by
  unfold OpenLaw.wellSaid OpenRow.wellSaid OpenRow.partSaid looksOpen
  repeat' with_reducible refine look_both ?_ ?_
  all_goals (try rw [Fast.te8326940854005059898]); (try rw [Fast.te17119622794617984870]); (try rw [Fast.te8377067652309620493]); (try rw [Fast.te9558739934217749035]); (try rw [Fast.te8179353310426384613]); (try rw [Fast.te16286561074155671207]); (try rw [Fast.te18344453789297297638]); (try rw [Fast.te12862048085361865435]); decide +kernel
theorem hd {d : DefRec} {kwd : List (Str × Expr)}
    (hdef : defOf hd.view_39 PySem.Challenge.rw_no0507_01.row.name = some (d, kwd)) (hp : PySem.Challenge.rw_no0507_01.row.prog.theDef PySem.Challenge.rw_no0507_01.row.name = some (d.params, d.body, d.scope)) (hk : kwWritten? d.params.kwonlyargs d.params.kw_defaults = some kwd)
    (walk : WalkO hd.view_39 [Str.ofString "number"] (XL hd.view_39 []) (kHook hd.heap_39 AS as_ok).says PySem.Challenge.rw_no0507_01.row.toRowW d kwd (fun f vs => PySem.call f vs)) : PySem.Challenge.rw_no0507_01.Holds := by
  refine holds_law said_ fun said => ?_
  refine holds_open (q := hd.view_39) (loose := [Str.ofString "number"]) (XP := XL hd.view_39 []) (Yf := Hook.obs (kHook hd.heap_39 AS as_ok)) (Ya := Hook.val (kHook hd.heap_39 AS as_ok)) (YP := Hook.says (kHook hd.heap_39 AS as_ok)) (N := 4956) left_ (Hook.of _) (Hook.keeps _) (fun s e => xl_of s (Bool.and_eq_true_iff.mp e).1) XL.keeps hdef hp hk (fun s e => recFacts_of (Bool.and_eq_true_iff.mp e).2) (by first | rfl | fail "a") said (by decide +kernel) ⟨rfl, rfl, rfl, rfl, rfl, by decide +kernel⟩ ?hw walk
  case hw => w_witness2

/-! abstract values, objects, the state -/
inductive AV where
  | none
  | bool (b : Bool)
  | int (i : Int)
  | str (s : Str)
  | ref (a : Addr)
  | fn (v : Value)

noncomputable def VR : AV → Value → Prop
  | .none, v => v = .none
  | .bool b, v => v = .bool b
  | .int i, v => ∃ t, v = .int i t
  | .str s, v => ∃ t, v = .str s t
  | .ref a, v => v = .ref a
  | .fn w, v => v = w
noncomputable def VRs : List AV → List Value → Prop
  | [], [] => True
  | a :: as, v :: vs => VR a v ∧ VRs as vs
  | _, _ => False

inductive AO where
  | tup (vs : List AV)
  | lst (vs : List AV)
  | inst (C d : Addr)
  | dict (fs : List (Str × AV))
  | rng (n : Int)
  | exc (od : Option Addr) (new : Bool)

noncomputable def FR (P : Params) : List (Str × AV) → List DictEntry → Prop
  | [], [] => True
  | f :: fs, e :: es => ((∃ t, e.key = .str f.1 t) ∧ e.hash = PyData.keyHash P f.1 ∧ VR f.2 e.val) ∧ FR P fs es
  | _, _ => False

noncomputable def OR (P : Params) : AO → Obj → Prop
  | .tup vs, o => ∃ ws n, o = { cls := .type "tuple", data := .seq ws.toArray n } ∧ VRs vs ws
  | .lst vs, o => ∃ ws n, o = { cls := .type "list", data := .seq ws.toArray n } ∧ VRs vs ws
  | .inst C d, o => o = instObj C d
  | .dict fs, o => ∃ es n, o = dictOf es n ∧ FR P fs es
  | .rng n, o => ∃ t u v, o = { cls := .type "range", dict := none, data := .fields #[.int 0 t, .int n u, .int 1 v], slots := #[] }
  | .exc od new, o => ∃ vs sl, o = { cls := .ref 51, dict := od, data := .fields vs, slots := sl } ∧ 1 < vs.size ∧ (new = true → vs[1]? = some .none)

abbrev AH := Addr → Option AO
abbrev Loc := Str → Option AV
noncomputable def upd (H : AH) (a : Addr) (o : AO) : AH := fun b => if b = a then some o else H b
noncomputable def hNil : AH := fun _ => none

structure Wd where
  w : World
  mean : ExcName → Option Value
  mg : Str → Option Value
  mb : Str → Option Value
  scr : Addr
  scrV : List Value
noncomputable abbrev PG : Program := PySem.Challenge.rw_no0507_01.row.prog
noncomputable abbrev VW : Program := hd.view_39
noncomputable abbrev LO : List Str := looseW hd.view_39 [Str.ofString "number"]
noncomputable def KK (W : Wd) : Frag := hd.heap_39 W.w.params
noncomputable abbrev MD (W : Wd) : Model := model PG W.w

structure Fi where
  qual : Str
  scope : Scope
  fa : Addr
  cd : Value
noncomputable def Fi.env (fi : Fi) (L : Addr) : Env := envX fi.qual fi.scope L fi.fa fi.cd []

structure Amb (W : Wd) (fi : Fi) (dp un : Nat) (A A₀ : Around) (base h₀ : Heap) (outer : List Env) (L : Addr) : Prop where
  handled : A.handled = none
  frames : A.frames = some (fi.env L :: outer)
  depth : A.depth ≤ dp
  units : A.units ≤ un
  below : Below A₀ base outer h₀
  K : (KK W).In h₀
  T : Top VW LO W.mean W.mg W.mb h₀
  scr : h₀.IsList W.scr W.scrV.toArray
  kind : fi.scope.kind = .function
  top : fi.qual = "law" → base = h₀

structure Hp (W : Wd) (h₀ : Heap) (L : Addr) (m : Str → Option Value) (led pv : List (Addr × Obj)) (H : AH) (h : Heap) : Prop where
  fr : Fr h₀ L h m
  nw : News h₀ L h led
  ord : (led.map (·.1)).Pairwise (· > ·)
  hp : ∀ a o, H a = some o → ∃ ob, (a, ob) ∈ led ∧ OR W.w.params o ob
  pv : ∀ p ∈ pv, p ∈ led ∧ H p.1 = none

noncomputable def LocR (loc : Loc) (m : Str → Option Value) : Prop := ∀ x av, loc x = some av → ∃ v, m x = some v ∧ VR av v

/-- how the trace of an exception stands -/
noncomputable def TrIs (B h : Heap) (e : Addr) (vs : Array Value) : Option Value → Prop
  | none => vs[1]? = some .none
  | some fl => ∃ T oT ts, vs[1]? = some (.ref T) ∧ B.get? T = none ∧ T ≠ e ∧ h.get? T = some oT ∧ oT.data = .fields ts ∧ ts[3]? = some fl
/-- an exception of the text's own class ReadError and what it bears -/
structure XO (P : Params) (base B : Heap) (l : List Env) (e d : Addr) (k : Str) (a : Int) (tr : Option Value) (h : Heap) : Prop where
  stays : base.StaysIn B
  st : B.StaysIn h
  en : B.get? e = none
  fr : h.FunFrames B l
  dn : base.get? d = none
  dat : ∃ es n, B.get? d = some (dictOf es n) ∧ FR P [("kind", .str k), ("at", .int a)] es
  obj : ∃ oe vs, h.get? e = some oe ∧ oe.cls = .ref 51 ∧ oe.dict = some d ∧ oe.data = .fields vs ∧ 1 < vs.size ∧ TrIs B h e vs tr
/-- in a frame: raised here, held by a loop of this frame, or come from a callee -/
noncomputable def ExcAt (P : Params) (h₀ : Heap) (L : Addr) (m : Str → Option Value) (pv : List (Addr × Obj)) (base : Heap) (env : Env) (outer : List Env) (e : Addr) (k : Str) (a : Int) (h' : Heap) : Prop :=
  ∃ g B d tr, Fr h₀ L g m ∧ g.UpToSlots h' ∧ XO P base B (env :: outer) e d k a tr h' ∧ (∀ p ∈ pv, B.get? p.1 = some p.2 ∧ p.1 ≠ d) ∧ (tr = none ∨ tr = some .none ∨ tr = some (rawInt L))
abbrev Xs := Str → Int → Prop
abbrev EEm (P : Params) (X : Xs) (h₀ : Heap) (L : Addr) (m : Str → Option Value) (pv : List (Addr × Obj)) (base : Heap) (env : Env) (outer : List Env) (s : Shared) (E : Value → Shared → Prop) : Prop :=
  ∀ e k a h' tk, X k a → ExcAt P h₀ L m pv base env outer e k a h' → E (.ref e) { s with heap := h', toks := tk }
abbrev EE (P : Params) (X : Xs) (h₀ : Heap) (L : Addr) (pv : List (Addr × Obj)) (base : Heap) (env : Env) (outer : List Env) (s : Shared) (E : Value → Shared → Prop) : Prop :=
  ∀ m, EEm P X h₀ L m pv base env outer s E

noncomputable def noX : Xs := fun _ _ => False

/-- a tree of values from state (H): what it gives satisfies R, what it raises X -/
structure WpV (W : Wd) (fi : Fi) (dp un : Nat) (loc : Loc) (H : AH) (t : Env → Sem Value) (R : AV → AH → Prop) (X : Xs) : Prop where
  run : ∀ A A₀ base h₀ outer L m led pv s (Q E : Value → Shared → Prop), Amb W fi dp un A A₀ base h₀ outer L → LocR loc m → Hp W h₀ L m led pv H s.heap →
    (∀ v av H' led' h' tk, R av H' → VR av v → Hp W h₀ L m led' pv H' h' → Q v { s with heap := h', toks := tk }) →
    EEm W.w.params X h₀ L m pv base (fi.env L) outer s E → wpAny (MD W) A (t (fi.env L)) Q E s
structure WpB (W : Wd) (fi : Fi) (dp un : Nat) (loc : Loc) (H : AH) (t : Env → Sem Bool) (R : Bool → AH → Prop) (X : Xs) : Prop where
  run : ∀ A A₀ base h₀ outer L m led pv s (Q : Bool → Shared → Prop) (E : Value → Shared → Prop), Amb W fi dp un A A₀ base h₀ outer L → LocR loc m → Hp W h₀ L m led pv H s.heap →
    (∀ b H' led' h' tk, R b H' → Hp W h₀ L m led' pv H' h' → Q b { s with heap := h', toks := tk }) →
    EEm W.w.params X h₀ L m pv base (fi.env L) outer s E → wpAny (MD W) A (t (fi.env L)) Q E s
structure WpL (W : Wd) (fi : Fi) (dp un : Nat) (loc : Loc) (H : AH) (t : Env → Sem (List Value)) (R : List AV → AH → Prop) (X : Xs) : Prop where
  run : ∀ A A₀ base h₀ outer L m led pv s (Q : List Value → Shared → Prop) (E : Value → Shared → Prop), Amb W fi dp un A A₀ base h₀ outer L → LocR loc m → Hp W h₀ L m led pv H s.heap →
    (∀ vs avs H' led' h' tk, R avs H' → VRs avs vs → Hp W h₀ L m led' pv H' h' → Q vs { s with heap := h', toks := tk }) →
    EEm W.w.params X h₀ L m pv base (fi.env L) outer s E → wpAny (MD W) A (t (fi.env L)) Q E s

inductive AF where
  | next
  | brk
  | cont
  | ret (v : AV)
noncomputable def FlR : AF → Flow → Prop
  | .next, f => f = .next
  | .brk, f => f = .brk
  | .cont, f => f = .cont
  | .ret a, f => ∃ v, f = .ret v ∧ VR a v
structure WpF (W : Wd) (fi : Fi) (dp un : Nat) (loc : Loc) (H : AH) (t : Env → Sem Flow) (R : AF → Loc → AH → Prop) (X : Xs) : Prop where
  run : ∀ A A₀ base h₀ outer L m led pv s (Q : Flow → Shared → Prop) (E : Value → Shared → Prop), Amb W fi dp un A A₀ base h₀ outer L → LocR loc m → Hp W h₀ L m led pv H s.heap →
    (∀ f af loc' m' H' led' h' tk, R af loc' H' → FlR af f → LocR loc' m' → Hp W h₀ L m' led' pv H' h' → Q f { s with heap := h', toks := tk }) →
    EE W.w.params X h₀ L pv base (fi.env L) outer s E → wpAny (MD W) A (t (fi.env L)) Q E s

abbrev WpE (W : Wd) (fi : Fi) (dp un : Nat) (loc : Loc) (H : AH) (e : Expr) (R : AV → AH → Prop) (X : Xs) : Prop := WpV W fi dp un loc H (fun env => eval e env) R X
abbrev WpT (W : Wd) (fi : Fi) (dp un : Nat) (loc : Loc) (H : AH) (e : Expr) (R : Bool → AH → Prop) (X : Xs) : Prop := WpB W fi dp un loc H (fun env => isTrue e env (eval e env)) R X
abbrev WpS (W : Wd) (fi : Fi) (dp un : Nat) (loc : Loc) (H : AH) (e : Stmt) (R : AF → Loc → AH → Prop) (X : Xs) : Prop := WpF W fi dp un loc H (fun env => exec e env) R X
abbrev WpSS (W : Wd) (fi : Fi) (dp un : Nat) (loc : Loc) (H : AH) (e : List Stmt) (R : AF → Loc → AH → Prop) (X : Xs) : Prop := WpF W fi dp un loc H (fun env => execs e env) R X
abbrev WpAs (W : Wd) (fi : Fi) (dp un : Nat) (loc : Loc) (H : AH) (pos : Pos) (es : List Expr) (R : List AV → AH → Prop) (X : Xs) : Prop := WpL W fi dp un loc H (fun env => spliced (backTo pos (starEach es env))) R X

/-- a step that is the value's alone: no frame -/
structure Stp (W : Wd) (dp un : Nat) (H : AH) (t : Sem Value) (R : AV → AH → Prop) (X : Xs) : Prop where
  run : ∀ fi A A₀ base h₀ outer L m led pv s (Q E : Value → Shared → Prop), Amb W fi dp un A A₀ base h₀ outer L → Hp W h₀ L m led pv H s.heap →
    (∀ v av H' led' h' tk, R av H' → VR av v → Hp W h₀ L m led' pv H' h' → Q v { s with heap := h', toks := tk }) →
    EEm W.w.params X h₀ L m pv base (fi.env L) outer s E → wpAny (MD W) A t Q E s

noncomputable def Call_OK (W : Wd) (dp un : Nat) (H : AH) (f : Value) (as : List AV) (R : AV → AH → Prop) (X : Xs) : Prop := ∀ vs, VRs as vs → Stp W dp un H (call f vs) R X

theorem mapF_dict (o : Obj) (f : Array Value → Array Value) : (o.mapFields f).dict = o.dict := by
  obtain ⟨c, d, dt, sl⟩ := o; cases dt <;> rfl

section
variable {P : Params} {base B : Heap} {l : List Env} {e d : Addr} {k : Str} {a : Int} {tr : Option Value} {h h' : Heap}

/-- one record outside B is changed -/
theorem keepBut {z : Addr} {oz : Obj} {vz : Array Value} (st : B.StaysIn h) (fr : h.FunFrames B l) (hz : B.get? z = none) (ho : h.get? z = some oz) (hd : oz.data = .fields vz) (hk : ∀ b o, b ≠ z → h.get? b = some o → h'.get? b = some o) :
    B.StaysIn h' ∧ h'.FunFrames B l ∧ h.UpToSlots h' := by
  have nr : ∀ b o, h.get? b = some o → (∀ vs, o.data ≠ .fields vs) → b ≠ z := fun b o hb hnf q => by
    rw [q, ho] at hb; injection hb with hb; subst hb; exact hnf vz hd
  exact ⟨fun b o hb => hk b o (fun q => by rw [q, hz] at hb; cases hb) (st b o hb), fr.of_keeps fun b o hb hnf => ⟨o, hk b o (nr b o hb hnf) hb, rfl⟩, fun b o hb hnf => ⟨o.slots, hk b o (nr b o hb hnf) hb⟩⟩

theorem XO.slots {h₁ : Heap} (x : XO P base B l e d k a tr h) (hs : Heap.SlotsOnly (l.filterMap (·.frame)) h h₁) : XO P base B l e d k a tr h₁ ∧ h.UpToSlots h₁ := by
  obtain ⟨oe, vs, h1, h2, h3, h4, h5, h6⟩ := x.obj
  have nr : ∀ {b o ws}, h.get? b = some o → o.data = .fields ws → b ∉ l.filterMap (·.frame) := fun {b o ws} hb hd hm => by
    obtain ⟨_, o', ho, hnf⟩ := x.fr.mem hm
    rw [hb] at ho; injection ho with ho; subst ho; exact hnf ws hd
  refine ⟨⟨x.stays, fun b o hb => (hs.2.1 b fun hm => ?_).trans (x.st b o hb), x.en, x.fr.of_slotsOnly hs, x.dn, x.dat, ?_⟩, fun b o hb _ => hs.2.2 b o hb⟩
  · rw [(x.fr.mem hm).1] at hb; cases hb
  · refine ⟨oe, vs, (hs.2.1 e (nr h1 h4)).trans h1, h2, h3, h4, h5, ?_⟩
    cases tr with
    | none => exact h6
    | some fl =>
      obtain ⟨T, oT, ts, t1, t2, t3, t4, t5, t6⟩ := h6
      exact ⟨T, oT, ts, t1, t2, t3, (hs.2.1 T (nr t4 t5)).trans t4, t5, t6⟩
end

section
variable {M : Model} {A : Around} {E : Value → Shared → Prop} {s : Shared} {P : Params} {base B : Heap} {l : List Env} {env : Env} {outer : List Env} {e d L : Addr} {k : Str} {a : Int} {tr : Option Value} {Q : Unit → Shared → Prop}

/-- the flight's mark is set -/
theorem XO.setT {T : Addr} {oT : Obj} {ts vs : Array Value} {oe : Obj} {fl : Value} (x : XO P base B l e d k a tr s.heap) (h1 : s.heap.get? e = some oe) (h4 : oe.data = .fields vs) (t1 : vs[1]? = some (.ref T)) (t2 : B.get? T = none) (t3 : T ≠ e)
    (t4 : s.heap.get? T = some oT) (t5 : oT.data = .fields ts) (t6 : 3 < ts.size)
    (hQ : ∀ h', XO P base B l e d k a (some fl) h' → s.heap.UpToSlots h' → Q () { s with heap := h' }) : wpAny M A (setField (.ref T) 3 fl) Q E s := by
  obtain ⟨oe', vs', k1, k2, k3, k4, k5, _⟩ := x.obj
  rw [h1] at k1; cases k1
  rw [h4] at k4; cases k4
  refine wpAny_setField t4 t5 t6 ?_
  obtain ⟨q1, q2, q3⟩ := keepBut (h' := s.heap.update T (Obj.mapFields (·.setIfInBounds 3 fl))) x.st x.fr t2 t4 t5 fun b o hb e' => (Heap.get?_update_other _ _ (Ne.symm hb)).trans e'
  have hd := Obj.data_mapFields t5 (·.setIfInBounds 3 fl)
  refine hQ _ ⟨x.stays, q1, x.en, q2, x.dn, x.dat, oe, vs, (Heap.get?_update_other _ _ t3).trans h1, k2, k3, h4, k5, T, _, _, t1, t2, t3, Heap.get?_update_self _ t4 (Obj.isFreed_of_fields hd), hd, ?_⟩ q3
  simp [t6]

theorem XO.fly {f : Option Addr} {fl : Value} (x : XO P base B l e d k a (some fl) s.heap)
    (hQ : ∀ h', XO P base B l e d k a (some (f.elim .none fun f => rawInt f)) h' → s.heap.UpToSlots h' → Q () { s with heap := h' }) : wpAny M A (setFlight (.ref e) f) Q E s := by
  obtain ⟨oe, vs, k1, k2, k3, k4, k5, T, oT, ts, t1, t2, t3, t4, t5, t6⟩ := x.obj
  unfold setFlight
  refine wpAny_bind (wpAny_field k1 k4 t1 ?_)
  rw [if_pos (show (Value.ref T != Value.none) = true from by simp)]
  exact x.setT k1 k4 t1 t2 t3 t4 t5 (Array.getElem?_eq_some_iff.mp t6).1 hQ
theorem XO.land {fl : Value} (x : XO P base B l e d k a (some fl) s.heap)
    (hQ : ∀ h', XO P base B l e d k a (some .none) h' → s.heap.UpToSlots h' → Q () { s with heap := h' }) : wpAny M A (setFlight (.ref e) none) Q E s := x.fly (f := none) hQ

/-- a new entry in front -/
theorem XO.entry {hadNext : Bool} {head : Value} (x : XO P base B (env :: outer) e d k a tr s.heap) (hfr : A.frames = some (env :: outer)) (hf : env.frame = some L)
    (hQ : ∀ h', XO P base B (env :: outer) e d k a (some (rawInt L)) h' → s.heap.UpToSlots h' → Q () { s with heap := h' }) :
    wpAny M A (do let a ← frameOf env; let pl ← entryPlaceOf L hadNext; let b ← EntryCells.newEntry head a .none (rawInt L) .none pl; setField (.ref e) 1 b) Q E s := by
  refine wpAny_bind (wpAny_frameOf_fun hfr x.fr hf fun h₁ hs₁ => ?_)
  obtain ⟨x1, up1⟩ := x.slots hs₁
  refine wpAny_bind (wpAny_entryPlaceOf fun pl hpl => ?_)
  unfold EntryCells.newEntry newFields
  refine wpAny_bind (wpAny_newObj_type ?_ (hpl.sizeOk5 _ _ _ _ _))
  obtain ⟨oe, vs, k1, k2, k3, k4, k5, _⟩ := x1.obj
  have he₂ := Heap.get?_push_of_some (h := h₁) { cls := .type "traceback", dict := none, data := .fields ([head, .ref L, .none, rawInt L, .none] ++ (if pl.isEmpty then List.replicate 6 Value.none else pl)).toArray } k1
  refine wpAny_setField he₂ k4 k5 ?_
  have hTe : h₁.objs.size ≠ e := Nat.ne_of_gt (Heap.lt_size k1)
  have hd₃ := Obj.data_mapFields k4 (·.setIfInBounds 1 (Value.ref h₁.objs.size))
  have he₃ := Heap.get?_update_self (Obj.mapFields (·.setIfInBounds 1 (Value.ref h₁.objs.size))) he₂ (Obj.isFreed_of_fields hd₃)
  have hT₃ := (Heap.get?_update_other (h₁.push { cls := .type "traceback", dict := none, data := .fields ([head, .ref L, .none, rawInt L, .none] ++ (if pl.isEmpty then List.replicate 6 Value.none else pl)).toArray })
    (Obj.mapFields (·.setIfInBounds 1 (Value.ref h₁.objs.size))) (Ne.symm hTe)).trans (Heap.get?_push_size h₁ rfl)
  obtain ⟨q1, q2, q3⟩ := keepBut (h' := (h₁.push { cls := .type "traceback", dict := none, data := .fields ([head, .ref L, .none, rawInt L, .none] ++ (if pl.isEmpty then List.replicate 6 Value.none else pl)).toArray }).update e (Obj.mapFields (·.setIfInBounds 1 (Value.ref h₁.objs.size)))) x1.st x1.fr x1.en k1 k4 fun b o hb e' =>
    (Heap.get?_update_other _ _ (Ne.symm hb)).trans (Heap.get?_push_of_some _ e')
  refine hQ _ ⟨x1.stays, q1, x1.en, q2, x1.dn, x1.dat, _, _, he₃, (Obj.cls_mapFields _ _).trans k2, (mapF_dict _ _).trans k3, hd₃, by simpa using k5, h₁.objs.size, _, _, by simp [k5], x1.st.fresh, hTe, hT₃, rfl, ?_⟩ (up1.trans q3)
  first | (simp; done) | (rcases hpl with rfl | ⟨_, _, _, _, _, _, _, rfl⟩ <;> simp)

theorem XO.note (x : XO P base B (env :: outer) e d k a tr s.heap) (ht : tr = none ∨ tr = some .none ∨ tr = some (rawInt L)) (hfr : A.frames = some (env :: outer)) (hf : env.frame = some L)
    (hQ : ∀ h', XO P base B (env :: outer) e d k a (some (rawInt L)) h' → s.heap.UpToSlots h' → Q () { s with heap := h' }) : wpAny M A (noteFrame (.ref e) env) Q E s := by
  unfold noteFrame
  simp only [hf]
  rcases ht with rfl | rfl | rfl
  · obtain ⟨oe, vs, k1, k2, k3, k4, k5, t1⟩ := x.obj
    refine wpAny_bind (wpAny_field k1 k4 t1 ?_)
    rw [if_neg (by decide)]
    exact x.entry hfr hf hQ
  · obtain ⟨oe, vs, k1, k2, k3, k4, k5, T, oT, ts, t1, t2, t3, t4, t5, t6⟩ := x.obj
    refine wpAny_bind (wpAny_field k1 k4 t1 ?_)
    rw [if_pos (show (Value.ref T != Value.none) = true from by simp)]
    refine wpAny_bind (wpAny_field t4 t5 t6 ?_)
    rw [if_neg (show ¬ ((Value.none == rawInt L) = true) from by simp [rawInt])]
    refine wpAny_bind (x.setT k1 k4 t1 t2 t3 t4 t5 (Array.getElem?_eq_some_iff.mp t6).1 fun h' x' up => ?_)
    exact x'.entry (s := { s with heap := h' }) hfr hf fun h'' x'' up' => hQ h'' x'' (up.trans up')
  · obtain ⟨oe, vs, k1, k2, k3, k4, k5, T, oT, ts, t1, t2, t3, t4, t5, t6⟩ := x.obj
    refine wpAny_bind (wpAny_field k1 k4 t1 ?_)
    rw [if_pos (show (Value.ref T != Value.none) = true from by simp)]
    refine wpAny_bind (wpAny_field t4 t5 t6 ?_)
    rw [if_pos (show (rawInt L == rawInt L) = true from by simp)]
    exact wpAny_pure (hQ s.heap x (Heap.UpToSlots.refl _))

theorem XO.back {fl : Value} (x : XO P base B l e d k a (some fl) s.heap) (hf : env.frame = some L)
    (hQ : ∀ h', XO P base B l e d k a (some (rawInt L)) h' → s.heap.UpToSlots h' → Q () { s with heap := h' }) :
    wpAny M A (do
      if (← field (.ref e) 1) == .none then unsupported "frame.own-activation:exception-without-traceback"
      setFlight (.ref e) env.frame) Q E s := by
  obtain ⟨oe, vs, k1, k2, k3, k4, k5, T, oT, ts, t1, t2, t3, t4, t5, t6⟩ := x.obj
  refine wpAny_bind (wpAny_field k1 k4 t1 ?_)
  rw [if_neg (show ¬ ((Value.ref T == Value.none) = true) from by simp), hf]
  exact x.fly (f := some L) hQ
end

section
variable {W : Wd} {fi : Fi} {dp un : Nat} {loc : Loc} {H : AH} {X : Xs}

theorem WpV.mono {t : Env → Sem Value} {R R' : AV → AH → Prop} (h : WpV W fi dp un loc H t R X) (hr : ∀ v H', R v H' → R' v H') : WpV W fi dp un loc H t R' X :=
  .mk fun A A₀ base h₀ outer L m led pv s Q E am lr hp hQ hE => h.run A A₀ base h₀ outer L m led pv s Q E am lr hp (fun v av H' led' h' tk r => hQ v av H' led' h' tk (hr _ _ r)) hE
theorem WpF.mono {t : Env → Sem Flow} {R R' : AF → Loc → AH → Prop} (h : WpF W fi dp un loc H t R X) (hr : ∀ f l H', R f l H' → R' f l H') : WpF W fi dp un loc H t R' X :=
  .mk fun A A₀ base h₀ outer L m led pv s Q E am lr hp hQ hE => h.run A A₀ base h₀ outer L m led pv s Q E am lr hp (fun f af l m' H' led' h' tk r => hQ f af l m' H' led' h' tk (hr _ _ _ r)) hE

/-- the name stands in the scope as a local -/
noncomputable def locIn (sc : Scope) (x : Str) : Bool := sc.names.lookup x == some .local && !(x == ("__debug__" : Str))
noncomputable def globIn (sc : Scope) (x : Str) : Bool := sc.names.lookup x == some .globalImplicit && !(x == ("__debug__" : Str))

theorem e_name {x : Str} {pos : Pos} {av : AV} {R : AV → AH → Prop} (h1 : loc x = some av) (r : R av H) (h2 : locIn fi.scope x = true) :
    WpE W fi dp un loc H (.Name x pos) R X := by
  constructor
  intro A A₀ base h₀ outer L m led pv s Q E am lr hp hQ hE
  obtain ⟨v, hv, hvr⟩ := lr x av h1
  unfold locIn at h2
  rw [Bool.and_eq_true, beq_iff_eq, Bool.not_eq_true'] at h2
  exact nameX_L hp.fr hv (hQ v av H led s.heap s.toks r hvr hp) am.kind h2.1 h2.2
theorem e_glob {x : Str} {pos : Pos} {v : Value} {R : AV → AH → Prop} (h1 : ∀ w : World, nsIn (hd.heap_39 w.params) mainGlobals x = some (some v)) (r : R (.fn v) H) (h2 : globIn fi.scope x = true) :
    WpE W fi dp un loc H (.Name x pos) R X := by
  constructor
  intro A A₀ base h₀ outer L m led pv s Q E am lr hp hQ hE
  unfold globIn at h2
  rw [Bool.and_eq_true, beq_iff_eq, Bool.not_eq_true'] at h2
  exact nameX_K hp.fr am.K (topRead_of am.T) (h1 W.w) (hQ v _ H led s.heap s.toks r rfl hp) am.kind h2.1 h2.2
theorem e_globInt {x : Str} {pos : Pos} {i : Int} {t : Tok} {R : AV → AH → Prop} (h1 : ∀ w : World, nsIn (hd.heap_39 w.params) mainGlobals x = some (some (.int i t))) (r : R (.int i) H) (h2 : globIn fi.scope x = true) :
    WpE W fi dp un loc H (.Name x pos) R X := by
  constructor
  intro A A₀ base h₀ outer L m led pv s Q E am lr hp hQ hE
  unfold globIn at h2
  rw [Bool.and_eq_true, beq_iff_eq, Bool.not_eq_true'] at h2
  exact nameX_K hp.fr am.K (topRead_of am.T) (h1 W.w) (hQ _ _ H led s.heap s.toks r ⟨t, rfl⟩ hp) am.kind h2.1 h2.2
theorem e_boot {x : Str} {pos : Pos} {v : Value} {R : AV → AH → Prop} (h1 : ∀ w : World, nsIn (hd.heap_39 w.params) mainGlobals x = some none) (hv : bootBuiltins x = some v) (hn : x ≠ "__name__") (r : R (.fn v) H) (h2 : globIn fi.scope x = true) :
    WpE W fi dp un loc H (.Name x pos) R X := by
  constructor
  intro A A₀ base h₀ outer L m led pv s Q E am lr hp hQ hE
  unfold globIn at h2
  rw [Bool.and_eq_true, beq_iff_eq, Bool.not_eq_true'] at h2
  exact nameX_B hp.fr am.K (topRead_of am.T) (h1 W.w) hv hn (hQ v _ H led s.heap s.toks r rfl hp) am.kind h2.1 h2.2

theorem e_int {i : Int} {k : Nat} {pos : Pos} {R : AV → AH → Prop} (r : R (.int i) H) : WpE W fi dp un loc H (.Constant (.int i) k pos) R X :=
  .mk fun A A₀ base h₀ outer L m led pv s Q E am lr hp hQ hE => wpAny_Constant_int (hQ _ _ H led s.heap _ r ⟨_, rfl⟩ hp)
theorem e_str {x : Str} {k : Nat} {pos : Pos} {R : AV → AH → Prop} (r : R (.str x) H) : WpE W fi dp un loc H (.Constant (.str x) k pos) R X :=
  .mk fun A A₀ base h₀ outer L m led pv s Q E am lr hp hQ hE => Calls.Constant_str (hQ _ _ H led s.heap _ r ⟨_, rfl⟩ hp)
theorem e_bool {b : Bool} {k : Nat} {pos : Pos} {R : AV → AH → Prop} (r : R (.bool b) H) : WpE W fi dp un loc H (.Constant (.bool b) k pos) R X :=
  .mk fun A A₀ base h₀ outer L m led pv s Q E am lr hp hQ hE => Constant_bool (hQ _ _ H led s.heap s.toks r rfl hp)
theorem e_none {k : Nat} {pos : Pos} {R : AV → AH → Prop} (r : R .none H) : WpE W fi dp un loc H (.Constant .none k pos) R X :=
  .mk fun A A₀ base h₀ outer L m led pv s Q E am lr hp hQ hE => Constant_none (hQ _ _ H led s.heap s.toks r rfl hp)

noncomputable def BinOK (W : Wd) (dp un : Nat) (H : AH) (op : Operator) (a b : AV) (R : AV → AH → Prop) (X : Xs) : Prop := ∀ va vb, VR a va → VR b vb → Stp W dp un H (binaryOp op va vb) R X
noncomputable def CmpOK (W : Wd) (dp un : Nat) (H : AH) (op : CmpOp) (a b : AV) (R : AV → AH → Prop) (X : Xs) : Prop := ∀ va vb, VR a va → VR b vb → Stp W dp un H (compareOp op va vb) R X
noncomputable def UnOK (W : Wd) (dp un : Nat) (H : AH) (op : UnaryOp) (a : AV) (R : AV → AH → Prop) (X : Xs) : Prop := ∀ va, VR a va → Stp W dp un H (unaryOp op va) R X
noncomputable def InpOK (W : Wd) (dp un : Nat) (H : AH) (op : Operator) (a b : AV) (R : AV → AH → Prop) (X : Xs) : Prop := ∀ va vb, VR a va → VR b vb → Stp W dp un H (inplaceOp op va vb) R X
/-- the truth of a value that is a bool -/
noncomputable def tru : AV → Option Bool
  | .bool b => some b
  | .none => some false
  | .int i => some (!(i == 0))
  | _ => none

theorem e_bin {l r : Expr} {op : Operator} {pos : Pos} {R : AV → AH → Prop}
    (h : WpE W fi dp un loc H l (fun a H1 => WpE W fi dp un loc H1 r (fun b H2 => BinOK W dp un H2 op a b R X) X) X) : WpE W fi dp un loc H (.BinOp l op r pos) R X := by
  constructor
  intro A A₀ base h₀ outer L m led pv s Q E am lr hp hQ hE
  refine wpAny_BinOp (h.run A A₀ base h₀ outer L m led pv s _ E am lr hp (fun v av H1 led1 h1 tk1 r1 v1 hp1 => ?_) hE)
  refine r1.run A A₀ base h₀ outer L m led1 pv _ _ E am lr hp1 (fun v' av' H2 led2 h2 tk2 r2 v2 hp2 => ?_) hE
  exact (r2 v v' v1 v2).run fi A A₀ base h₀ outer L m led2 pv _ _ E am hp2 hQ hE
theorem e_un {x : Expr} {op : UnaryOp} {pos : Pos} {R : AV → AH → Prop}
    (h : WpE W fi dp un loc H x (fun a H1 => UnOK W dp un H1 op a R X) X) : WpE W fi dp un loc H (.UnaryOp op x pos) R X := by
  constructor
  intro A A₀ base h₀ outer L m led pv s Q E am lr hp hQ hE
  refine UnaryOp_ (h.run A A₀ base h₀ outer L m led pv s _ E am lr hp (fun v av H1 led1 h1 tk1 r1 v1 hp1 => ?_) hE)
  exact (r1 v v1).run fi A A₀ base h₀ outer L m led1 pv _ _ E am hp1 hQ hE
theorem e_cmp {l r : Expr} {op : CmpOp} {pos : Pos} {R : AV → AH → Prop}
    (h : WpE W fi dp un loc H l (fun a H1 => WpE W fi dp un loc H1 r (fun b H2 => CmpOK W dp un H2 op a b R X) X) X) (hm : behindInMarks op r = false := by rfl) : WpE W fi dp un loc H (.Compare l [op] [r] pos) R X := by
  constructor
  intro A A₀ base h₀ outer L m led pv s Q E am lr hp hQ hE
  refine wpAny_Compare1 (h.run A A₀ base h₀ outer L m led pv s _ E am lr hp (fun v av H1 led1 h1 tk1 r1 v1 hp1 => ?_) hE) hm
  refine r1.run A A₀ base h₀ outer L m led1 pv _ _ E am lr hp1 (fun v' av' H2 led2 h2 tk2 r2 v2 hp2 => ?_) hE
  exact (r2 v v' v1 v2).run fi A A₀ base h₀ outer L m led2 pv _ _ E am hp2 hQ hE
theorem truthy_av {A : Around} {E : Value → Shared → Prop} {s : Shared} {a : AV} {v : Value} {b : Bool} {Q : Bool → Shared → Prop} (hv : VR a v) (ht : tru a = some b) (h : Q b s) : wpAny (MD W) A (truthy v) Q E s := by
  cases a with
  | none => cases hv; cases ht; exact truthy_none h
  | bool c => cases hv; cases ht; exact wpAny_truthy_bool h
  | int i => obtain ⟨t, rfl⟩ := hv; cases ht; exact truthy_int h
  | str x => cases ht
  | ref a => cases ht
  | fn w => cases ht
theorem e_and {e₁ e₂ : Expr} {rest : List Expr} {pos : Pos} {R : AV → AH → Prop}
    (h : WpE W fi dp un loc H e₁ (fun a H1 => ∃ b, tru a = some b ∧ (b = true → WpE W fi dp un loc H1 (.BoolOp .And (e₂ :: rest) pos) R X) ∧ (b = false → R a H1)) X) : WpE W fi dp un loc H (.BoolOp .And (e₁ :: e₂ :: rest) pos) R X := by
  constructor
  intro A A₀ base h₀ outer L m led pv s Q E am lr hp hQ hE
  refine BoolOp_and (h.run A A₀ base h₀ outer L m led pv s _ E am lr hp (fun v av H1 led1 h1 tk1 r1 v1 hp1 => ?_) hE)
  obtain ⟨b, hb, ht, hf⟩ := r1
  refine truthy_av v1 hb ?_
  cases b with
  | true => exact (ht rfl).run A A₀ base h₀ outer L m led1 pv _ _ E am lr hp1 hQ hE
  | false => exact hQ _ _ _ _ _ _ (hf rfl) v1 hp1
theorem e_or {e₁ e₂ : Expr} {rest : List Expr} {pos : Pos} {R : AV → AH → Prop}
    (h : WpE W fi dp un loc H e₁ (fun a H1 => ∃ b, tru a = some b ∧ (b = false → WpE W fi dp un loc H1 (.BoolOp .Or (e₂ :: rest) pos) R X) ∧ (b = true → R a H1)) X) : WpE W fi dp un loc H (.BoolOp .Or (e₁ :: e₂ :: rest) pos) R X := by
  constructor
  intro A A₀ base h₀ outer L m led pv s Q E am lr hp hQ hE
  refine BoolOp_or (h.run A A₀ base h₀ outer L m led pv s _ E am lr hp (fun v av H1 led1 h1 tk1 r1 v1 hp1 => ?_) hE)
  obtain ⟨b, hb, ht, hf⟩ := r1
  refine truthy_av v1 hb ?_
  cases b with
  | false => exact (ht rfl).run A A₀ base h₀ outer L m led1 pv _ _ E am lr hp1 hQ hE
  | true => exact hQ _ _ _ _ _ _ (hf rfl) v1 hp1
theorem e_bop1 {e : Expr} {op : BoolOp} {pos : Pos} {R : AV → AH → Prop} (h : WpE W fi dp un loc H e R X) : WpE W fi dp un loc H (.BoolOp op [e] pos) R X :=
  .mk fun A A₀ base h₀ outer L m led pv s Q E am lr hp hQ hE => BoolOp_one (h.run A A₀ base h₀ outer L m led pv s Q E am lr hp hQ hE)
theorem e_ifexp {t b o : Expr} {pos : Pos} {R : AV → AH → Prop}
    (h : WpT W fi dp un loc H t (fun c H1 => (c = true → WpE W fi dp un loc H1 b R X) ∧ (c = false → WpE W fi dp un loc H1 o R X)) X) : WpE W fi dp un loc H (.IfExp t b o pos) R X := by
  constructor
  intro A A₀ base h₀ outer L m led pv s Q E am lr hp hQ hE
  refine IfExp_ (h.run A A₀ base h₀ outer L m led pv s _ E am lr hp (fun c H1 led1 h1 tk1 r1 hp1 => ?_) hE)
  cases c with
  | true => exact (r1.1 rfl).run A A₀ base h₀ outer L m led1 pv _ _ E am lr hp1 hQ hE
  | false => exact (r1.2 rfl).run A A₀ base h₀ outer L m led1 pv _ _ E am lr hp1 hQ hE

/-! tests -/
theorem t_cmp {l r : Expr} {op : CmpOp} {pos : Pos} {R : Bool → AH → Prop}
    (h : WpE W fi dp un loc H l (fun a H1 => WpE W fi dp un loc H1 r (fun b H2 => CmpOK W dp un H2 op a b (fun c H3 => ∃ b, tru c = some b ∧ R b H3) X) X) X) (hm : behindInMarks op r = false := by rfl) : WpT W fi dp un loc H (.Compare l [op] [r] pos) R X := by
  constructor
  intro A A₀ base h₀ outer L m led pv s Q E am lr hp hQ hE
  refine wpAny_isTrue_Compare1 (h.run A A₀ base h₀ outer L m led pv s _ E am lr hp (fun v av H1 led1 h1 tk1 r1 v1 hp1 => ?_) hE) hm
  refine r1.run A A₀ base h₀ outer L m led1 pv _ _ E am lr hp1 (fun v' av' H2 led2 h2 tk2 r2 v2 hp2 => ?_) hE
  refine (r2 v v' v1 v2).run fi A A₀ base h₀ outer L m led2 pv _ _ E am hp2 (fun v3 av3 H3 led3 h3 tk3 r3 vr3 hp3 => ?_) hE
  obtain ⟨b, hb, hr⟩ := r3
  exact truthy_av vr3 hb (hQ _ _ _ _ _ hr hp3)
/-- a test that is no comparison, no and | or | not, no conditional -/
noncomputable def plainTest : Expr → Bool
  | .UnaryOp .. | .BoolOp .. | .IfExp .. | .Compare .. => false
  | _ => true
theorem isTrue_eq {e : Expr} (h : plainTest e = true) (env : Env) (whole : Sem Value) : isTrue e env whole = (do let v ← whole; standAt e.pos; holding [v] (truthy v)) := by
  cases e <;> first | rfl | cases h
theorem t_val {e : Expr} {R : Bool → AH → Prop} (h : WpE W fi dp un loc H e (fun a H1 => ∃ b, tru a = some b ∧ R b H1) X) (hp : plainTest e = true := by rfl) : WpT W fi dp un loc H e R X := by
  constructor
  intro A A₀ base h₀ outer L m led pv s Q E am lr hp' hQ hE
  refine isTrue_plain (h.run A A₀ base h₀ outer L m led pv s _ E am lr hp' (fun v av H1 led1 h1 tk1 r1 v1 hp1 => ?_) hE) (isTrue_eq hp _ _)
  obtain ⟨b, hb, hr⟩ := r1
  exact truthy_av v1 hb (hQ _ _ _ _ _ hr hp1)
theorem t_and {x : Expr} {rest : List Expr} {pos : Pos} {R : Bool → AH → Prop}
    (h : WpT W fi dp un loc H x (fun c H1 => (c = true → WpT W fi dp un loc H1 (.BoolOp .And rest pos) R X) ∧ (c = false → R false H1)) X) : WpT W fi dp un loc H (.BoolOp .And (x :: rest) pos) R X := by
  constructor
  intro A A₀ base h₀ outer L m led pv s Q E am lr hp hQ hE
  refine isTrue_and (h.run A A₀ base h₀ outer L m led pv s _ E am lr hp (fun c H1 led1 h1 tk1 r1 hp1 => ?_) hE)
  cases c with
  | true => exact (r1.1 rfl).run A A₀ base h₀ outer L m led1 pv _ _ E am lr hp1 hQ hE
  | false => exact hQ _ _ _ _ _ (r1.2 rfl) hp1
theorem t_or {x : Expr} {rest : List Expr} {pos : Pos} {R : Bool → AH → Prop}
    (h : WpT W fi dp un loc H x (fun c H1 => (c = false → WpT W fi dp un loc H1 (.BoolOp .Or rest pos) R X) ∧ (c = true → R true H1)) X) : WpT W fi dp un loc H (.BoolOp .Or (x :: rest) pos) R X := by
  constructor
  intro A A₀ base h₀ outer L m led pv s Q E am lr hp hQ hE
  refine isTrue_or (h.run A A₀ base h₀ outer L m led pv s _ E am lr hp (fun c H1 led1 h1 tk1 r1 hp1 => ?_) hE)
  cases c with
  | false => exact (r1.1 rfl).run A A₀ base h₀ outer L m led1 pv _ _ E am lr hp1 hQ hE
  | true => exact hQ _ _ _ _ _ (r1.2 rfl) hp1
theorem t_and0 {pos : Pos} {R : Bool → AH → Prop} (r : R true H) : WpT W fi dp un loc H (.BoolOp .And [] pos) R X :=
  .mk fun A A₀ base h₀ outer L m led pv s Q E am lr hp hQ hE => isTrue_and_nil (hQ _ _ led s.heap s.toks r hp)
theorem t_or0 {pos : Pos} {R : Bool → AH → Prop} (r : R false H) : WpT W fi dp un loc H (.BoolOp .Or [] pos) R X :=
  .mk fun A A₀ base h₀ outer L m led pv s Q E am lr hp hQ hE => isTrue_or_nil (hQ _ _ led s.heap s.toks r hp)

/-! the ways of and | or joined: the second's value is told beforehand -/
theorem e_andJ {e₁ e₂ : Expr} {rest : List Expr} {pos : Pos} {R : AV → AH → Prop}
    (h : WpE W fi dp un loc H e₁ (fun a H1 => ∃ b₁ b₂, a = .bool b₁ ∧ (b₁ = true → WpE W fi dp un loc H1 (.BoolOp .And (e₂ :: rest) pos) (fun c H2 => c = .bool b₂ ∧ H2 = H1) X) ∧ R (.bool (b₁ && b₂)) H1) X) : WpE W fi dp un loc H (.BoolOp .And (e₁ :: e₂ :: rest) pos) R X := by
  refine e_and (h.mono fun a H1 h => ?_)
  obtain ⟨b₁, b₂, rfl, h2, r⟩ := h
  refine ⟨b₁, rfl, fun hb => (h2 hb).mono fun c H2 hc => ?_, fun hb => ?_⟩
  · obtain ⟨rfl, rfl⟩ := hc; subst hb; exact r
  · subst hb; exact r
theorem e_orJ {e₁ e₂ : Expr} {rest : List Expr} {pos : Pos} {R : AV → AH → Prop}
    (h : WpE W fi dp un loc H e₁ (fun a H1 => ∃ b₁ b₂, a = .bool b₁ ∧ (b₁ = false → WpE W fi dp un loc H1 (.BoolOp .Or (e₂ :: rest) pos) (fun c H2 => c = .bool b₂ ∧ H2 = H1) X) ∧ R (.bool (b₁ || b₂)) H1) X) : WpE W fi dp un loc H (.BoolOp .Or (e₁ :: e₂ :: rest) pos) R X := by
  refine e_or (h.mono fun a H1 h => ?_)
  obtain ⟨b₁, b₂, rfl, h2, r⟩ := h
  refine ⟨b₁, rfl, fun hb => (h2 hb).mono fun c H2 hc => ?_, fun hb => ?_⟩
  · obtain ⟨rfl, rfl⟩ := hc; subst hb; exact r
  · subst hb; exact r
theorem WpB.mono {t : Env → Sem Bool} {R R' : Bool → AH → Prop} (h : WpB W fi dp un loc H t R X) (hr : ∀ v H', R v H' → R' v H') : WpB W fi dp un loc H t R' X :=
  .mk fun A A₀ base h₀ outer L m led pv s Q E am lr hp hQ hE => h.run A A₀ base h₀ outer L m led pv s Q E am lr hp (fun v H' led' h' tk r => hQ v H' led' h' tk (hr _ _ r)) hE
theorem t_andJ {x y : Expr} {rest : List Expr} {pos : Pos} {R : Bool → AH → Prop}
    (h : WpT W fi dp un loc H x (fun b₁ H1 => ∃ b₂, (b₁ = true → WpT W fi dp un loc H1 (.BoolOp .And (y :: rest) pos) (fun c H2 => c = b₂ ∧ H2 = H1) X) ∧ R (b₁ && b₂) H1) X) : WpT W fi dp un loc H (.BoolOp .And (x :: y :: rest) pos) R X := by
  refine t_and (h.mono fun b₁ H1 h => ?_)
  obtain ⟨b₂, h2, r⟩ := h
  refine ⟨fun hb => (h2 hb).mono fun c H2 hc => ?_, fun hb => ?_⟩
  · obtain ⟨rfl, rfl⟩ := hc; subst hb; exact r
  · subst hb; exact r
theorem t_orJ {x y : Expr} {rest : List Expr} {pos : Pos} {R : Bool → AH → Prop}
    (h : WpT W fi dp un loc H x (fun b₁ H1 => ∃ b₂, (b₁ = false → WpT W fi dp un loc H1 (.BoolOp .Or (y :: rest) pos) (fun c H2 => c = b₂ ∧ H2 = H1) X) ∧ R (b₁ || b₂) H1) X) : WpT W fi dp un loc H (.BoolOp .Or (x :: y :: rest) pos) R X := by
  refine t_or (h.mono fun b₁ H1 h => ?_)
  obtain ⟨b₂, h2, r⟩ := h
  refine ⟨fun hb => (h2 hb).mono fun c H2 hc => ?_, fun hb => ?_⟩
  · obtain ⟨rfl, rfl⟩ := hc; subst hb; exact r
  · subst hb; exact r
theorem t_and1 {x : Expr} {pos : Pos} {R : Bool → AH → Prop} (h : WpT W fi dp un loc H x R X) : WpT W fi dp un loc H (.BoolOp .And [x] pos) R X :=
  t_and (h.mono fun b H1 r => ⟨fun hb => t_and0 (by subst hb; exact r), fun hb => by subst hb; exact r⟩)
theorem t_or1 {x : Expr} {pos : Pos} {R : Bool → AH → Prop} (h : WpT W fi dp un loc H x R X) : WpT W fi dp un loc H (.BoolOp .Or [x] pos) R X :=
  t_or (h.mono fun b H1 r => ⟨fun hb => t_or0 (by subst hb; exact r), fun hb => by subst hb; exact r⟩)

/-! arguments -/
noncomputable def plainArg : Expr → Bool
  | .Starred .. => false
  | _ => true
theorem starEach_cons {e : Expr} (h : plainArg e = true) (rest : List Expr) (env : Env) : starEach (e :: rest) env = (false, eval e env) :: starEach rest env := by
  cases e <;> first | rfl | cases h
theorem as_nil {pos : Pos} {R : List AV → AH → Prop} (r : R [] H) : WpAs W fi dp un loc H pos [] R X :=
  .mk fun A A₀ base h₀ outer L m led pv s Q E am lr hp hQ hE => spliced_none (hQ _ _ _ led s.heap s.toks r trivial hp)
theorem as_cons {pos : Pos} {e : Expr} {rest : List Expr} {R : List AV → AH → Prop}
    (h : WpE W fi dp un loc H e (fun a H1 => WpAs W fi dp un loc H1 pos rest (fun as H2 => R (a :: as) H2) X) X) (hp : plainArg e = true := by rfl) : WpAs W fi dp un loc H pos (e :: rest) R X := by
  constructor
  intro A A₀ base h₀ outer L m led pv s Q E am lr hp' hQ hE
  refine spliced_more (h.run A A₀ base h₀ outer L m led pv s _ E am lr hp' (fun v av H1 led1 h1 tk1 r1 v1 hp1 => ?_) hE) (starEach_cons hp _ _)
  exact r1.run A A₀ base h₀ outer L m led1 pv _ _ E am lr hp1 (fun vs avs H2 led2 h2 tk2 r2 v2 hp2 => hQ _ _ _ _ _ _ r2 ⟨v1, v2⟩ hp2) hE
end

theorem plainArgs_any {pos : Pos} {env : Env} : ∀ {rest : List Expr}, rest.all plainArg = true → (backTo pos (starEach rest env)).any (·.1) = false
  | [], _ => rfl
  | e :: rest, h => by
    rw [List.all_cons, Bool.and_eq_true] at h
    rw [starEach_cons h.1]
    have := plainArgs_any (pos := pos) (env := env) h.2
    simp only [backTo] at this ⊢
    simpa using this
theorem evalArgs_any {M : Model} {A : Around} {E : Value → Shared → Prop} {s : Shared} {f : Value} {pos : Pos} {env : Env} {args : List Expr} (hpl : args.all plainArg = true) {Q : Args → Shared → Prop}
    (h : wpAny M A (spliced (backTo pos (starEach args env))) (fun vs s₁ => Q ⟨vs, []⟩ s₁) E s) : wpAny M A (evalArgs f true (backTo pos (starEach args env)) []) Q E s := by
  cases args with
  | nil =>
    unfold evalArgs
    show wpAny M A (spliced [] >>= _) Q E s
    refine wpAny_bind (wpAny_mono h (fun vs s₁ hq => ?_) fun _ _ x => x)
    refine wpAny_bind (wpAny_pure ?_)
    refine wpAny_holding ?_
    exact wpAny_bind (wpAny_pure (wpAny_bind (wpAny_pure (wpAny_pure hq))))
  | cons e rest =>
    rw [List.all_cons, Bool.and_eq_true] at hpl
    rw [starEach_cons hpl.1] at h ⊢
    exact evalArgs_plain h
theorem vrs_app : ∀ {fs : List AV} {first : List Value} {as : List AV} {vs : List Value}, VRs fs first → VRs as vs → VRs (fs ++ as) (first ++ vs)
  | [], [], _, _, _, h => h
  | _ :: _, _ :: _, _, _, ⟨h1, h2⟩, h => ⟨h1, vrs_app h2 h⟩
  | [], _ :: _, _, _, h, _ => h.elim
  | _ :: _, [], _, _, h, _ => h.elim

/-- what a call of f looks at before its arguments -/
inductive Callee where
  | own (a : Addr)
  | bi (id : String)
  | ty (T : String)
noncomputable def Callee.val : Callee → Value
  | .own a => .ref a
  | .bi id => .builtin id
  | .ty T => .type T
noncomputable def Callee.ok : Callee → Prop
  | .own a => ∀ w : World, keepIn (hd.heap_39 w.params) (.ref a) = true
  | _ => True

section
variable {W : Wd} {fi : Fi} {dp un : Nat} {loc : Loc} {H : AH} {X : Xs}

theorem Amb.Kin {A A₀ : Around} {base h₀ : Heap} {outer : List Env} {L : Addr} {m : Str → Option Value} {led pv : List (Addr × Obj)} {h : Heap}
    (am : Amb W fi dp un A A₀ base h₀ outer L) (hp : Hp W h₀ L m led pv H h) : (KK W).In h := am.K.keeps hp.fr.keep

theorem callWith_av {A A₀ : Around} {base h₀ : Heap} {outer : List Env} {L : Addr} {m : Str → Option Value} {led pv : List (Addr × Obj)} {s : Shared} {Q E : Value → Shared → Prop} {pos : Pos} {c : Callee} {first : List Value} {args : List Expr}
    {R : AV → AH → Prop} {fs : List AV} (hk : c.ok) (hpl : args.all plainArg = true) (hfs : VRs fs first)
    (h : WpAs W fi dp un loc H pos args (fun as H2 => Call_OK W dp un H2 c.val (fs ++ as) R X) X)
    (am : Amb W fi dp un A A₀ base h₀ outer L) (lr : LocR loc m) (hp : Hp W h₀ L m led pv H s.heap)
    (hQ : ∀ v av H' led' h' tk, R av H' → VR av v → Hp W h₀ L m led' pv H' h' → Q v { s with heap := h', toks := tk })
    (hE : EEm W.w.params X h₀ L m pv base (fi.env L) outer s E) : wpAny (MD W) A (callWith pos c.val first (backTo pos (starEach args (fi.env L))) []) Q E s := by
  have hany := plainArgs_any (pos := pos) (env := fi.env L) hpl
  cases c with
  | own a =>
    refine callWith_of (P := (KK W).In) (by rw [hany]; rfl) (keeps_K (hk W.w)) (evalArgs_any hpl ?_)
    exact h.run A A₀ base h₀ outer L m led pv s _ E am lr hp (fun vs avs H2 led2 h2 tk2 r2 v2 hp2 => ⟨am.Kin hp2, (r2 _ (vrs_app hfs v2)).run fi A A₀ base h₀ outer L m led2 pv _ _ E am hp2 hQ hE⟩) hE
  | bi id =>
    refine callWith_builtin hany (evalArgs_any hpl ?_)
    exact h.run A A₀ base h₀ outer L m led pv s _ E am lr hp (fun vs avs H2 led2 h2 tk2 r2 v2 hp2 => (r2 _ (vrs_app hfs v2)).run fi A A₀ base h₀ outer L m led2 pv _ _ E am hp2 hQ hE) hE
  | ty T =>
    refine PyProof.Rows.callWith_type hany (evalArgs_any hpl ?_)
    exact h.run A A₀ base h₀ outer L m led pv s _ E am lr hp (fun vs avs H2 led2 h2 tk2 r2 v2 hp2 => (r2 _ (vrs_app hfs v2)).run fi A A₀ base h₀ outer L m led2 pv _ _ E am hp2 hQ hE) hE

theorem e_callX {x : Str} {p pos : Pos} {args : List Expr} {c : Callee} {R : AV → AH → Prop} (hk : c.ok)
    (hn : ∀ {R' : AV → AH → Prop}, R' (.fn c.val) H → WpE W fi dp un loc H (.Name x p) R' X) (hpl : args.all plainArg = true)
    (h : WpAs W fi dp un loc H pos args (fun as H2 => Call_OK W dp un H2 c.val as R X) X) : WpE W fi dp un loc H (.Call (.Name x p) args [] pos) R X := by
  constructor
  intro A A₀ base h₀ outer L m led pv s Q E am lr hp hQ hE
  refine Call_ ((hn (R' := fun v H' => v = .fn c.val ∧ H' = H) ⟨rfl, rfl⟩).run A A₀ base h₀ outer L m led pv s _ E am lr hp (fun v av H1 led1 h1 tk1 r1 v1 hp1 => ?_) hE)
  obtain ⟨rfl, rfl⟩ := r1
  cases v1
  exact callWith_av (fs := []) (first := []) hk hpl trivial h am lr hp1 hQ hE
/-- a call of a def or class of the text by its name -/
theorem e_call {x : Str} {p pos : Pos} {args : List Expr} {a : Addr} {R : AV → AH → Prop} (hn : ∀ w : World, nsIn (hd.heap_39 w.params) mainGlobals x = some (some (.ref a))) (hk : ∀ w : World, keepIn (hd.heap_39 w.params) (.ref a) = true)
    (hg : globIn fi.scope x = true) (hpl : args.all plainArg = true)
    (h : WpAs W fi dp un loc H pos args (fun as H2 => Call_OK W dp un H2 (.ref a) as R X) X) : WpE W fi dp un loc H (.Call (.Name x p) args [] pos) R X :=
  e_callX (c := .own a) hk (fun r => e_glob hn r hg) hpl h
theorem e_callB {x : Str} {p pos : Pos} {args : List Expr} {id : String} {R : AV → AH → Prop} (hn : ∀ w : World, nsIn (hd.heap_39 w.params) mainGlobals x = some none) (hb : bootBuiltins x = some (.builtin id)) (hm : x ≠ "__name__")
    (hg : globIn fi.scope x = true) (hpl : args.all plainArg = true)
    (h : WpAs W fi dp un loc H pos args (fun as H2 => Call_OK W dp un H2 (.builtin id) as R X) X) : WpE W fi dp un loc H (.Call (.Name x p) args [] pos) R X :=
  e_callX (c := .bi id) trivial (fun r => e_boot hn hb hm r hg) hpl h
theorem e_callT {x : Str} {p pos : Pos} {args : List Expr} {T : String} {R : AV → AH → Prop} (hn : ∀ w : World, nsIn (hd.heap_39 w.params) mainGlobals x = some none) (hb : bootBuiltins x = some (.type T)) (hm : x ≠ "__name__")
    (hg : globIn fi.scope x = true) (hpl : args.all plainArg = true)
    (h : WpAs W fi dp un loc H pos args (fun as H2 => Call_OK W dp un H2 (.type T) as R X) X) : WpE W fi dp un loc H (.Call (.Name x p) args [] pos) R X :=
  e_callX (c := .ty T) trivial (fun r => e_boot hn hb hm r hg) hpl h

/-- what a method's look-up gives: the callee and what goes first -/
noncomputable def MethOK (W : Wd) (dp un : Nat) (H : AH) (v : AV) (name : Str) (c : Callee) : Prop := ∀ fi A A₀ base h₀ outer L m led pv s (pl : Sem Bool) va (Q : Value × List Value → Shared → Prop) (E : Value → Shared → Prop),
  Amb W fi dp un A A₀ base h₀ outer L → Hp W h₀ L m led pv H s.heap → VR v va → Q (c.val, [va]) s → wpAny (MD W) A (getMethod va name pl) Q E s
theorem e_meth {o : Expr} {name : Str} {apos pos : Pos} {args : List Expr} {R : AV → AH → Prop} {pl : Env → Sem Bool}
    (h : WpE W fi dp un loc H o (fun v H1 => ∃ c : Callee, c.ok ∧ MethOK W dp un H1 v name c ∧ WpAs W fi dp un loc H1 pos args (fun as H2 => Call_OK W dp un H2 c.val (v :: as) R X) X) X) (hpl : args.all plainArg = true)
    (he : ∀ env, eval (.Call (.Attribute o name apos) args [] pos) env = (do
      let ov ← eval o env
      standAt apos.atName
      let (f, first) ← holding [ov] (getMethod ov name (pl env))
      callWith pos f first (backTo pos (starEach args env)) [])) : WpE W fi dp un loc H (.Call (.Attribute o name apos) args [] pos) R X := by
  constructor
  intro A A₀ base h₀ outer L m led pv s Q E am lr hp hQ hE
  refine MethodCall_ (pl := pl (fi.env L)) (h.run A A₀ base h₀ outer L m led pv s _ E am lr hp (fun v av H1 led1 h1 tk1 r1 v1 hp1 => ?_) hE) (he _)
  obtain ⟨c, hc, hm, hw⟩ := r1
  refine hm fi A A₀ base h₀ outer L m led1 pv _ _ v _ E am hp1 v1 ?_
  exact callWith_av (fs := [av]) (first := [v]) hc hpl ⟨v1, trivial⟩ hw am lr hp1 hQ hE
end

/-! dicts of instances -/
theorem isStr_key {e : DictEntry} {x y : Str} {t : Tok} (h : e.key = .str x t) : e.key.isStr y = (x == y) := by rw [h]; rfl
theorem refKey_str {e : DictEntry} {x : Str} {t : Tok} (h : e.key = .str x t) : e.refKey = false := by unfold DictEntry.refKey; rw [h]
theorem FR.norefs {P : Params} : ∀ {fs : List (Str × AV)} {es : List DictEntry}, FR P fs es → es.any (·.refKey) = false
  | [], [], _ => rfl
  | f :: fs, e :: es, ⟨⟨⟨t, h⟩, _, _⟩, r⟩ => by rw [List.any_cons, refKey_str h, FR.norefs r]; rfl
  | [], _ :: _, h => h.elim
  | _ :: _, [], h => h.elim
theorem str_beq (x y : Str) : (x == y) = decide (x = y) := by
  by_cases h : x = y
  · subst h; simp
  · simp [h]
theorem FR.find {P : Params} {x : Str} : ∀ {fs : List (Str × AV)} {es : List DictEntry}, FR P fs es → match fs.lookup x with
    | some av => ∃ e, es.find? (·.key.isStr x) = some e ∧ VR av e.val
    | none => es.find? (·.key.isStr x) = none
  | [], [], _ => rfl
  | f :: fs, e :: es, ⟨⟨⟨t, h⟩, _, hv⟩, r⟩ => by
    obtain ⟨k, av⟩ := f
    have ih := FR.find (x := x) r
    rw [List.lookup_cons, List.find?_cons, isStr_key h]
    dsimp only at h hv ⊢
    by_cases q : x = k
    · subst q
      simp only [beq_self_eq_true]
      exact ⟨e, rfl, hv⟩
    · have q1 : (x == k) = false := by rw [str_beq]; exact decide_eq_false q
      have q2 : (k == x) = false := by rw [str_beq]; exact decide_eq_false (Ne.symm q)
      rw [q1, q2]
      exact ih
  | [], _ :: _, h => h.elim
  | _ :: _, [], h => h.elim
theorem FR.get {P : Params} {x : Str} {av : AV} {fs : List (Str × AV)} {es : List DictEntry} (h : FR P fs es) (e : fs.lookup x = some av) : ∃ v, getL x es = some (some v) ∧ VR av v := by
  have := FR.find (x := x) h
  rw [e] at this
  obtain ⟨en, h1, h2⟩ := this
  exact ⟨en.val, by unfold getL; rw [h1], h2⟩
theorem FR.none {P : Params} {x : Str} {fs : List (Str × AV)} {es : List DictEntry} (h : FR P fs es) (e : fs.lookup x = none) : getL x es = some none := by
  have := FR.find (x := x) h
  rw [e] at this
  unfold getL
  rw [this]
  dsimp only
  rw [h.norefs]; rfl
noncomputable def putF (x : Str) (av : AV) : List (Str × AV) → List (Str × AV)
  | [] => [(x, av)]
  | f :: r => if f.1 == x then (f.1, av) :: r else f :: putF x av r
theorem FR.put {P : Params} {x : Str} {av : AV} {v : Value} {t : Tok} (hv : VR av v) : ∀ {fs : List (Str × AV)} {es : List DictEntry}, FR P fs es → FR P (putF x av fs) (putL x (PyData.keyHash P x) (.str x t) v es)
  | [], [], _ => ⟨⟨⟨t, rfl⟩, rfl, hv⟩, trivial⟩
  | f :: fs, e :: es, ⟨⟨⟨t', h⟩, h2, hv'⟩, r⟩ => by
    unfold putF putL
    rw [isStr_key h]
    by_cases q : (f.1 == x) = true
    · rw [if_pos q, if_pos q]
      exact ⟨⟨⟨t', h⟩, h2, hv⟩, r⟩
    · rw [if_neg q, if_neg q]
      exact ⟨⟨⟨t', h⟩, h2, hv'⟩, FR.put hv r⟩
  | [], _ :: _, h => h.elim
  | _ :: _, [], h => h.elim
theorem FR.len {P : Params} : ∀ {fs : List (Str × AV)} {es : List DictEntry}, FR P fs es → es.length = fs.length
  | [], [], _ => rfl
  | f :: fs, e :: es, ⟨_, r⟩ => by rw [List.length_cons, List.length_cons, FR.len r]
  | [], _ :: _, h => h.elim
  | _ :: _, [], h => h.elim

/-! the ledger: one entry replaced -/
noncomputable def rep (led : List (Addr × Obj)) (a : Addr) (o : Obj) : List (Addr × Obj) := led.map fun p => if p.1 = a then (a, o) else p
theorem rep_map (led : List (Addr × Obj)) (a : Addr) (o : Obj) : (rep led a o).map (·.1) = led.map (·.1) := by
  unfold rep
  rw [List.map_map]
  refine List.map_congr_left fun p _ => ?_
  dsimp only [Function.comp]
  split
  · rename_i h; exact h.symm
  · rfl
theorem rep_other {led : List (Addr × Obj)} {a b : Addr} {o o' : Obj} (h : (b, o') ∈ led) (hne : b ≠ a) : (b, o') ∈ rep led a o := by
  unfold rep
  exact List.mem_map.mpr ⟨(b, o'), h, if_neg hne⟩
theorem rep_self {led : List (Addr × Obj)} {a : Addr} {o o' : Obj} (h : (a, o') ∈ led) : (a, o) ∈ rep led a o := by
  unfold rep
  exact List.mem_map.mpr ⟨(a, o'), h, if_pos rfl⟩
theorem upd_of {a : Addr} {o o' : Obj} : ∀ {led : List (Addr × Obj)}, (led.map (·.1)).Pairwise (· > ·) → (a, o) ∈ led → Upd a o o' led (rep led a o')
  | p :: r, h, hm => by
    rw [List.map_cons, List.pairwise_cons] at h
    rcases List.mem_cons.mp hm with rfl | hm
    · have hr : ∀ q ∈ r, q.1 ≠ a := fun q hq => Nat.ne_of_lt (h.1 q.1 (List.mem_map_of_mem hq))
      have e : rep ((a, o) :: r) a o' = (a, o') :: r := by
        unfold rep
        rw [List.map_cons, if_pos rfl]
        refine congrArg _ ?_
        conv => rhs; rw [← List.map_id r]
        exact List.map_congr_left fun q hq => if_neg (hr q hq)
      rw [e]
      exact .head hr
    · have hp : p.1 ≠ a := Nat.ne_of_gt (h.1 a (List.mem_map_of_mem hm))
      have e : rep (p :: r) a o' = p :: rep r a o' := by
        unfold rep
        rw [List.map_cons, if_neg hp]
      rw [e]
      exact .tail hp (upd_of h.2 hm)
section
variable {W : Wd} {fi : Fi} {dp un : Nat} {loc : Loc} {H : AH} {X : Xs} {h₀ h h' : Heap} {L : Addr} {m : Str → Option Value} {led pv : List (Addr × Obj)}
/-- one object of the state is changed -/
theorem Hp.update {a : Addr} {o : AO} {ob ob' : Obj} (hp : Hp W h₀ L m led pv H h) (hH : (H a).isSome = true) (hm : (a, ob) ∈ led) (ho : OR W.w.params o ob') (F : Fr h₀ L h' m) (N : News h₀ L h' (rep led a ob')) :
    Hp W h₀ L m (rep led a ob') pv (upd H a o) h' where
  fr := F
  nw := N
  ord := by rw [rep_map]; exact hp.ord
  hp := fun b o' e => by
    unfold upd at e
    split at e
    · rename_i q; subst q; cases e; exact ⟨ob', rep_self hm, ho⟩
    · rename_i q
      obtain ⟨ob2, h1, h2⟩ := hp.hp b o' e
      exact ⟨ob2, rep_other h1 q, h2⟩
  pv := fun p hpp => by
    obtain ⟨h1, h2⟩ := hp.pv p hpp
    have q : p.1 ≠ a := fun z => by rw [z] at h2; rw [h2] at hH; cases hH
    exact ⟨rep_other (b := p.1) (o' := p.2) h1 q, by unfold upd; rw [if_neg q]; exact h2⟩
/-- a new object -/
theorem Hp.new {a : Addr} {o : AO} {ob : Obj} (hp : Hp W h₀ L m led pv H h) (ho : OR W.w.params o ob) (F : Fr h₀ L h' m) (N : News h₀ L h' ((a, ob) :: led)) (hl : ∀ p ∈ led, p.1 < a) :
    Hp W h₀ L m ((a, ob) :: led) pv (upd H a o) h' where
  fr := F
  nw := N
  ord := by
    rw [List.map_cons]
    refine List.Pairwise.cons (fun b hb => ?_) hp.ord
    obtain ⟨p, h1, rfl⟩ := List.mem_map.mp hb
    exact hl p h1
  hp := fun b o' e => by
    unfold upd at e
    split at e
    · rename_i q; subst q; cases e; exact ⟨ob, .head _, ho⟩
    · obtain ⟨ob2, h1, h2⟩ := hp.hp b o' e
      exact ⟨ob2, .tail _ h1, h2⟩
  pv := fun p hpp => by
    obtain ⟨h1, h2⟩ := hp.pv p hpp
    have q : p.1 ≠ a := Nat.ne_of_lt (hl p h1)
    exact ⟨.tail _ h1, by unfold upd; rw [if_neg q]; exact h2⟩
/-- the new address is none of the state's -/
theorem Hp.fresh {a : Addr} (hp : Hp W h₀ L m led pv H h) (hl : ∀ p ∈ led, p.1 < a) : H a = none := by
  cases e : H a with
  | none => rfl
  | some o =>
    obtain ⟨ob, h1, _⟩ := hp.hp a o e
    exact absurd (hl _ h1) (Nat.lt_irrefl _)
/-- fewer facts -/
theorem Hp.drop {H' : AH} (hp : Hp W h₀ L m led pv H h) (hs : ∀ a o, H' a = some o → H a = some o) (hn : ∀ a, H a = none → H' a = none) : Hp W h₀ L m led pv H' h where
  fr := hp.fr
  nw := hp.nw
  ord := hp.ord
  hp := fun a o e => hp.hp a o (hs a o e)
  pv := fun p h1 => ⟨(hp.pv p h1).1, hn _ (hp.pv p h1).2⟩
/-- the heap grows, the frame and the ledger as they are -/
theorem Hp.at' (hp : Hp W h₀ L m led pv H h) (F : Fr h₀ L h' m) (N : News h₀ L h' led) : Hp W h₀ L m led pv H h' := ⟨F, N, hp.ord, hp.hp, hp.pv⟩
end

noncomputable def setL (loc : Loc) (x : Str) (av : AV) : Loc := fun y => if y = x then some av else loc y
theorem LocR.set {loc : Loc} {m : Str → Option Value} {x : Str} {av : AV} {v : Value} (h : LocR loc m) (hv : VR av v) : LocR (setL loc x av) (fun y => if y = x then some v else m y) := by
  intro y av' e
  unfold setL at e
  by_cases q : y = x
  · rw [if_pos q] at e; cases e; exact ⟨v, if_pos q, hv⟩
  · rw [if_neg q] at e
    obtain ⟨v', h1, h2⟩ := h y av' e
    exact ⟨v', by dsimp only; rw [if_neg q]; exact h1, h2⟩
theorem locIn_kind {sc : Scope} {x : Str} (h : locIn sc x = true) : sc.names.lookup x = some .local := by
  unfold locIn at h
  rw [Bool.and_eq_true, beq_iff_eq] at h
  exact h.1

section
variable {W : Wd} {fi : Fi} {dp un : Nat} {loc : Loc} {H : AH} {X : Xs}

/-- what stands behind: the rest of the list -/
noncomputable def Then (W : Wd) (fi : Fi) (dp un : Nat) (rest : List Stmt) (R : AF → Loc → AH → Prop) (X : Xs) : AF → Loc → AH → Prop
  | .next, loc, H => WpSS W fi dp un loc H rest R X
  | f, loc, H => R f loc H
theorem ss_nil {R : AF → Loc → AH → Prop} (r : R .next loc H) : WpSS W fi dp un loc H [] R X :=
  .mk fun A A₀ base h₀ outer L m led pv s Q E am lr hp hQ hE => wpAny_execs_nil (hQ _ _ _ m _ led s.heap s.toks r rfl lr hp)
theorem ss_cons {st : Stmt} {rest : List Stmt} {R : AF → Loc → AH → Prop} (h : WpS W fi dp un loc H st (Then W fi dp un rest R X) X) : WpSS W fi dp un loc H (st :: rest) R X := by
  constructor
  intro A A₀ base h₀ outer L m led pv s Q E am lr hp hQ hE
  refine wpAny_execs_cons (h.run A A₀ base h₀ outer L m led pv s _ E am lr hp (fun f af loc' m' H1 led1 h1 tk1 r1 fr lr1 hp1 => ?_) hE)
  cases af with
  | next => cases fr; exact r1.run A A₀ base h₀ outer L m' led1 pv _ _ E am lr1 hp1 hQ hE
  | brk => cases fr; exact hQ _ _ _ _ _ _ _ _ r1 rfl lr1 hp1
  | cont => cases fr; exact hQ _ _ _ _ _ _ _ _ r1 rfl lr1 hp1
  | ret v => obtain ⟨w, rfl, hv⟩ := fr; exact hQ _ _ _ _ _ _ _ _ r1 ⟨w, rfl, hv⟩ lr1 hp1

theorem store_av {A A₀ : Around} {base h₀ : Heap} {outer : List Env} {L : Addr} {m : Str → Option Value} {led pv : List (Addr × Obj)} {s : Shared} {Q : Unit → Shared → Prop} {E : Value → Shared → Prop} {x : Str} {v : Value} {av : AV}
    (hl : locIn fi.scope x = true) (am : Amb W fi dp un A A₀ base h₀ outer L) (lr : LocR loc m) (hp : Hp W h₀ L m led pv H s.heap) (hv : VR av v)
    (hQ : ∀ m' h' tk, LocR (setL loc x av) m' → Hp W h₀ L m' led pv H h' → Q () { s with heap := h', toks := tk }) : wpAny (MD W) A (storeName (fi.env L) x v) Q E s :=
  storeX_L hp.fr hp.nw (fun h' F' N' => hQ _ h' _ (lr.set hv) ⟨F', N', hp.ord, hp.hp, hp.pv⟩) am.kind (locIn_kind hl)

theorem s_assign {x : Str} {p pos : Pos} {value : Expr} {R : AF → Loc → AH → Prop}
    (h : WpE W fi dp un loc H value (fun v H1 => R .next (setL loc x v) H1) X) (hl : locIn fi.scope x = true) (hs : ∀ env, swapsWith value (some (.Name x p)) pos.line env = pure false) :
    WpS W fi dp un loc H (.Assign [.Name x p] value pos) R X := by
  constructor
  intro A A₀ base h₀ outer L m led pv s Q E am lr hp hQ hE
  refine wpAny_Assign_Name (h.run A A₀ base h₀ outer L m led pv s _ E am lr hp (fun v av H1 led1 h1 tk1 r1 v1 hp1 => ?_) (hE m)) (hs _)
  exact store_av hl am lr hp1 v1 fun m' h' tk lr' hp' => hQ _ _ _ _ _ _ _ _ r1 rfl lr' hp'
theorem s_aug {x : Str} {p pos : Pos} {op : Operator} {value : Expr} {old : AV} {R : AF → Loc → AH → Prop} (h1 : loc x = some old)
    (h : WpE W fi dp un loc H value (fun v H1 => InpOK W dp un H1 op old v (fun r H2 => R .next (setL loc x r) H2) X) X) (hl : locIn fi.scope x = true) :
    WpS W fi dp un loc H (.AugAssign (.Name x p) op value pos) R X := by
  constructor
  intro A A₀ base h₀ outer L m led pv s Q E am lr hp hQ hE
  obtain ⟨v0, hv0, hr0⟩ := lr x old h1
  refine wpAny_AugAssign_Name (wpAny_loadName_local am.kind (locIn_kind hl) hp.fr.ns hv0 ?_)
  refine h.run A A₀ base h₀ outer L m led pv s _ E am lr hp (fun v av H1 led1 h1 tk1 r1 v1 hp1 => ?_) (hE m)
  refine (r1 v0 v hr0 v1).run fi A A₀ base h₀ outer L m led1 pv _ _ E am hp1 (fun v2 av2 H2 led2 h2 tk2 r2 vr2 hp2 => ?_) (hE m)
  exact store_av hl am lr hp2 vr2 fun m' h' tk lr' hp' => hQ _ _ _ _ _ _ _ _ r2 rfl lr' hp'
theorem s_if {t : Expr} {b o : List Stmt} {pos : Pos} {R : AF → Loc → AH → Prop}
    (h : WpT W fi dp un loc H t (fun c H1 => (c = true → WpSS W fi dp un loc H1 b R X) ∧ (c = false → WpSS W fi dp un loc H1 o R X)) X) : WpS W fi dp un loc H (.If t b o pos) R X := by
  constructor
  intro A A₀ base h₀ outer L m led pv s Q E am lr hp hQ hE
  refine wpAny_If (h.run A A₀ base h₀ outer L m led pv s _ E am lr hp (fun c H1 led1 h1 tk1 r1 hp1 => ?_) (hE m))
  cases c with
  | true => exact (r1.1 rfl).run A A₀ base h₀ outer L m led1 pv _ _ E am lr hp1 hQ hE
  | false => exact (r1.2 rfl).run A A₀ base h₀ outer L m led1 pv _ _ E am lr hp1 hQ hE
theorem s_ret {e : Expr} {pos : Pos} {R : AF → Loc → AH → Prop} (h : WpE W fi dp un loc H e (fun v H1 => R (.ret v) loc H1) X) : WpS W fi dp un loc H (.Return (some e) pos) R X := by
  constructor
  intro A A₀ base h₀ outer L m led pv s Q E am lr hp hQ hE
  exact wpAny_Return_some (h.run A A₀ base h₀ outer L m led pv s _ E am lr hp (fun v av H1 led1 h1 tk1 r1 v1 hp1 => hQ _ _ _ _ _ _ _ _ r1 ⟨v, rfl, v1⟩ lr hp1) (hE m))
theorem s_ret0 {pos : Pos} {R : AF → Loc → AH → Prop} (h : R (.ret .none) loc H) : WpS W fi dp un loc H (.Return none pos) R X := by
  constructor
  intro A A₀ base h₀ outer L m led pv s Q E am lr hp hQ hE
  exact wpAny_Return_none (hQ _ _ _ m _ led s.heap s.toks h ⟨.none, rfl, rfl⟩ lr hp)
theorem s_break {pos : Pos} {R : AF → Loc → AH → Prop} (h : R .brk loc H) : WpS W fi dp un loc H (.Break pos) R X := by
  constructor
  intro A A₀ base h₀ outer L m led pv s Q E am lr hp hQ hE
  exact wpAny_Break (hQ _ _ _ m _ led s.heap s.toks h rfl lr hp)
/-- a bare call that gives None -/
theorem s_expr {e : Expr} {pos : Pos} {R : AF → Loc → AH → Prop} (h : WpE W fi dp un loc H e (fun v H1 => v = .none ∧ R .next loc H1) X) (hi : ∀ L, interactive (fi.env L) = false) (hs : ∀ env, swapsWith e none pos.line env = pure false) :
    WpS W fi dp un loc H (.Expr e pos) R X := by
  constructor
  intro A A₀ base h₀ outer L m led pv s Q E am lr hp hQ hE
  refine wpAny_Expr (h.run A A₀ base h₀ outer L m led pv s _ E am lr hp (fun v av H1 led1 h1 tk1 r1 v1 hp1 => ?_) (hE m)) (hi L) (hs _)
  obtain ⟨rfl, r⟩ := r1
  cases v1
  exact hQ _ _ _ _ _ _ _ _ r rfl lr hp1
/-- self.x = value -/
noncomputable def PutOK (W : Wd) (dp un : Nat) (H : AH) (o : AV) (name : Str) (v : AV) (R : AH → Prop) : Prop := ∀ fi A A₀ base h₀ outer L m led pv s vo vv (Q : Unit → Shared → Prop) (E : Value → Shared → Prop),
  Amb W fi dp un A A₀ base h₀ outer L → Hp W h₀ L m led pv H s.heap → VR o vo → VR v vv →
    (∀ H' led' h' tk, R H' → Hp W h₀ L m led' pv H' h' → Q () { s with heap := h', toks := tk }) → wpAny (MD W) A (setAttr vo name vv) Q E s
theorem s_put {o value : Expr} {attr : Str} {p pos : Pos} {R : AF → Loc → AH → Prop}
    (h : WpE W fi dp un loc H value (fun v H1 => WpE W fi dp un loc H1 o (fun ov H2 => PutOK W dp un H2 ov attr v (R .next loc)) X) X) (hs : ∀ env, swapsWith value (some (.Attribute o attr p)) pos.line env = pure false) :
    WpS W fi dp un loc H (.Assign [.Attribute o attr p] value pos) R X := by
  constructor
  intro A A₀ base h₀ outer L m led pv s Q E am lr hp hQ hE
  refine plainObj_wpAny_Assign_Attribute (h.run A A₀ base h₀ outer L m led pv s _ E am lr hp (fun v av H1 led1 h1 tk1 r1 v1 hp1 => ?_) (hE m)) (hs _)
  refine r1.run A A₀ base h₀ outer L m led1 pv _ _ E am lr hp1 (fun v2 av2 H2 led2 h2 tk2 r2 vr2 hp2 => ?_) (hE m)
  exact r2 fi A A₀ base h₀ outer L m led2 pv _ _ _ _ E am hp2 vr2 v1 fun H3 led3 h3 tk3 r3 hp3 => hQ _ _ _ m _ _ _ _ r3 rfl lr hp3

structure SetAt (C : Addr) (name : Str) : Prop where
  ok : ∀ w : World, findIn (hd.heap_39 w.params) (.ref C) "__setattr__" = some (some (.builtin "object.__setattr__")) ∧ plainOver (hd.heap_39 w.params) C = true ∧ takerIn (hd.heap_39 w.params) C name = some none ∧ hasDictIn (hd.heap_39 w.params) C = true
structure FieldAt (C : Addr) (name : Str) : Prop where
  ok : ∀ w : World, plainGet (hd.heap_39 w.params) C name = true ∧ hasDictIn (hd.heap_39 w.params) C = true ∧ ∃ attr, findIn (hd.heap_39 w.params) (.ref C) name = some attr ∧ noGet (hd.heap_39 w.params) attr = true
structure MethAt (C : Addr) (name : Str) (f : Addr) : Prop where
  ok : ∀ w : World, plainGet (hd.heap_39 w.params) C name = true ∧ findIn (hd.heap_39 w.params) (.ref C) name = some (some (.ref f)) ∧ isFn (hd.heap_39 w.params) (.ref f) = true

theorem Hp.instAt {h₀ h : Heap} {L : Addr} {m : Str → Option Value} {led pv : List (Addr × Obj)} {x C d : Addr} {fs : List (Str × AV)} (hp : Hp W h₀ L m led pv H h) (h1 : H x = some (.inst C d)) (h2 : H d = some (.dict fs)) :
    ∃ es n, (x, instObj C d) ∈ led ∧ (d, dictOf es n) ∈ led ∧ FR W.w.params fs es ∧ PySem.W.InstAt h x (instObj C d) C (some (dictOf es n)) := by
  obtain ⟨ob, m1, e1⟩ := hp.hp x _ h1
  obtain ⟨ob2, m2, es, n, e2, hf⟩ := hp.hp d _ h2
  obtain rfl : ob = instObj C d := e1
  subst e2
  exact ⟨es, n, m1, m2, hf, PySem.W.InstAt.of_news hp.nw m1 m2⟩
noncomputable def noFn : AV → Bool
  | .fn _ => false
  | _ => true
theorem handed_av {av : AV} {v : Value} (h : VR av v) (hn : noFn av = true) : handedIn v = true := by
  cases av with
  | none => cases h; rfl
  | bool _ => cases h; rfl
  | int _ => obtain ⟨_, rfl⟩ := h; rfl
  | str _ => obtain ⟨_, rfl⟩ := h; rfl
  | ref _ => cases h; rfl
  | fn _ => cases hn
theorem e_attr {o : Expr} {attr : Str} {pos : Pos} {R : AV → AH → Prop}
    (h : WpE W fi dp un loc H o (fun ov H1 => ∃ x C d fs av, ov = .ref x ∧ H1 x = some (.inst C d) ∧ H1 d = some (.dict fs) ∧ FieldAt C attr ∧ fs.lookup attr = some av ∧ noFn av = true ∧ R av H1) X)
    (he : ∀ env, eval (.Attribute o attr pos) env = (do
          let v ← eval o env
          standAt (Pos.atName pos)
          let r ← holding [v] (getAttr v attr true)
          letTemporaryGo o v r
          pure r)) : WpE W fi dp un loc H (.Attribute o attr pos) R X := by
  constructor
  intro A A₀ base h₀ outer L m led pv s Q E am lr hp hQ hE
  refine Attribute_any_ (h.run A A₀ base h₀ outer L m led pv s _ E am lr hp (fun v av H1 led1 h1 tk1 r1 v1 hp1 => ?_) hE) (he _)
  obtain ⟨x, C, d, fs, av', rfl, hx, hdd, hf, hl, hn, r⟩ := r1
  cases v1
  obtain ⟨es, n, m1, m2, hfr, I⟩ := hp1.instAt hx hdd
  obtain ⟨v', g1, g2⟩ := hfr.get hl
  obtain ⟨k1, k2, at', k3, k4⟩ := hf.ok W.w
  exact get_own hp1.fr am.K I k1 k2 k3 k4 g1 (handed_av g2 hn) (hQ _ _ _ _ _ _ r g2 hp1)
theorem putF_len (x : Str) (av : AV) : ∀ fs : List (Str × AV), (putF x av fs).length ≤ fs.length + 1
  | [] => Nat.le_refl _
  | f :: r => by
    unfold putF
    split
    · exact Nat.le_succ _
    · have := putF_len x av r; simp only [List.length_cons]; omega
theorem put_ok {x C d : Addr} {fs : List (Str × AV)} {name : Str} {v : AV} {R : AH → Prop} (h1 : H x = some (.inst C d)) (h2 : H d = some (.dict fs)) (hs : SetAt C name) (hl : fs.length < 1000)
    (r : R (upd H d (.dict (putF name v fs)))) : PutOK W dp un H (.ref x) name v R := by
  intro fi A A₀ base h₀ outer L m led pv s vo vv Q E am hp ho hv hQ
  cases ho
  obtain ⟨es, n, m1, m2, hfr, I⟩ := hp.instAt h1 h2
  obtain ⟨k1, k2, k3, k4⟩ := hs.ok W.w
  have hput := hfr.put (x := name) (t := s.toks + 1) hv
  have hget : (getL name es).isSome = true := by
    cases q : fs.lookup name with
    | none => rw [hfr.none q]; rfl
    | some av => obtain ⟨v', g1, _⟩ := hfr.get q; rw [g1]; rfl
  refine set_dict hp.fr am.K hp.nw I rfl k1 k2 k3 k4 hget rfl (upd_of hp.ord m2) (by rw [hput.len]; exact Nat.le_trans (putF_len name v fs) hl) fun h' F' N' => ?_
  exact hQ _ _ h' _ r (hp.update (by rw [h2]; rfl) m2 ⟨_, _, rfl, hput⟩ F' N')
theorem meth_inst {x C d f : Addr} {fs : List (Str × AV)} {name : Str} (h1 : H x = some (.inst C d)) (h2 : H d = some (.dict fs)) (hm : MethAt C name f) (hl : fs.lookup name = none) : MethOK W dp un H (.ref x) name (.own f) := by
  intro fi A A₀ base h₀ outer L m led pv s pl va Q E am hp hv hQ
  cases hv
  obtain ⟨es, n, m1, m2, hfr, I⟩ := hp.instAt h1 h2
  obtain ⟨k1, k2, k3⟩ := hm.ok W.w
  exact method_inst hp.fr am.K I k1 k2 k3 (hfr.none hl) hQ
end

section
variable {W : Wd} {fi : Fi} {dp un : Nat} {loc : Loc} {H : AH} {X : Xs} {h₀ h h' : Heap} {L : Addr} {m : Str → Option Value} {led pv : List (Addr × Obj)}

theorem EE.weaken {P : Params} {pv' : List (Addr × Obj)} {base : Heap} {env : Env} {outer : List Env} {s : Shared} {E : Value → Shared → Prop} (hE : EE P X h₀ L pv base env outer s E) (hs : ∀ p ∈ pv, p ∈ pv') : EE P X h₀ L pv' base env outer s E :=
  fun m e k a h' tk hx q => by
    obtain ⟨g, B, d, tr, F, up, x, hp, ht⟩ := q
    exact hE m e k a h' tk hx ⟨g, B, d, tr, F, up, x, fun p h1 => hp p (hs p h1), ht⟩
theorem ee_loop {A A₀ : Around} {base : Heap} {outer : List Env} {s : Shared} {E : Value → Shared → Prop} (am : Amb W fi dp un A A₀ base h₀ outer L) (hE : EE W.w.params X h₀ L pv base (fi.env L) outer s E) :
    EE W.w.params X h₀ L pv base (fi.env L) outer s (notedBy (MD W) A (fi.env L) fun e s' => cameBackBy (MD W) A (fi.env L) E e s') := by
  rintro m e k a h' tk hx ⟨g, B, d, tr, F, up, x, hp, ht⟩
  refine x.note (s := { s with heap := h', toks := tk }) ht am.frames rfl fun h1 x1 up1 => ?_
  show wpAny (MD W) A (do
      if (← field (.ref e) 1) == .none then unsupported "frame.own-activation:exception-without-traceback"
      setFlight (.ref e) (fi.env L).frame) _ E _
  refine x1.back (s := { s with heap := h1, toks := tk }) rfl fun h2 x2 up2 => ?_
  exact hE m e k a h2 tk hx ⟨g, B, d, _, F, (up.trans up1).trans up2, x2, hp, .inr (.inr rfl)⟩

theorem Hp.iter {I : Addr} {oI oI' : Obj} (hp : Hp W h₀ L m led ((I, oI) :: pv) H h) (hpv : ∀ p ∈ pv, p.1 ≠ I) (hk : ∀ b o, b ≠ I → h.get? b = some o → h'.get? b = some o) (hI : h'.get? I = some oI') :
    Hp W h₀ L m (rep led I oI') ((I, oI') :: pv) H h' := by
  obtain ⟨m1, n1⟩ := hp.pv (I, oI) (.head _)
  have z := hp.nw _ m1
  obtain ⟨oL, es, ep, hL, r⟩ := hp.fr.ns
  refine ⟨⟨⟨oL, es, ep, hk _ _ (Ne.symm z.2.1) hL, r⟩, fun b o e => hk b o (fun q => by rw [q, z.2.2] at e; cases e) (hp.fr.keep b o e), hp.fr.above⟩, fun p hm => ?_, by rw [rep_map]; exact hp.ord, fun a o e => ?_, fun p hm => ?_⟩
  · unfold rep at hm
    obtain ⟨q, hq, e⟩ := List.mem_map.mp hm
    by_cases c : q.1 = I
    · rw [if_pos c] at e; subst e; exact ⟨hI, z.2⟩
    · rw [if_neg c] at e; subst e; have y := hp.nw q hq; exact ⟨hk _ _ c y.1, y.2⟩
  · obtain ⟨ob, h1, h2⟩ := hp.hp a o e
    exact ⟨ob, rep_other h1 (fun q => by rw [q, n1] at e; cases e), h2⟩
  · rcases List.mem_cons.mp hm with rfl | hm
    · exact ⟨rep_self m1, n1⟩
    · obtain ⟨h1, h2⟩ := hp.pv p (.tail _ hm)
      exact ⟨rep_other (b := p.1) (o' := p.2) h1 (hpv p hm), h2⟩
theorem Hp.dropI {I : Addr} {oI : Obj} (hp : Hp W h₀ L m led ((I, oI) :: pv) H h) (hpv : ∀ p ∈ pv, p.1 ≠ I) (hk : ∀ b o, b ≠ I → h.get? b = some o → h'.get? b = some o) :
    Hp W h₀ L m (led.filter fun p => !decide (p.1 = I)) pv H h' := by
  obtain ⟨m1, n1⟩ := hp.pv (I, oI) (.head _)
  have z := hp.nw _ m1
  obtain ⟨oL, es, ep, hL, r⟩ := hp.fr.ns
  have keepm : ∀ {p : Addr × Obj}, p ∈ led → p.1 ≠ I → p ∈ led.filter fun p => !decide (p.1 = I) := fun h1 h2 => List.mem_filter.mpr ⟨h1, by rw [decide_eq_false h2]; rfl⟩
  refine ⟨⟨⟨oL, es, ep, hk _ _ (Ne.symm z.2.1) hL, r⟩, fun b o e => hk b o (fun q => by rw [q, z.2.2] at e; cases e) (hp.fr.keep b o e), hp.fr.above⟩, fun p hm => ?_, ?_, fun a o e => ?_, fun p hm => ?_⟩
  · obtain ⟨h1, h2⟩ := List.mem_filter.mp hm
    have y := hp.nw p h1
    exact ⟨hk _ _ (by simpa using h2) y.1, y.2⟩
  · exact hp.ord.sublist (List.Sublist.map _ List.filter_sublist)
  · obtain ⟨ob, h1, h2⟩ := hp.hp a o e
    exact ⟨ob, keepm h1 (fun q => by rw [show a = I from q, n1] at e; cases e), h2⟩
  · obtain ⟨h1, h2⟩ := hp.pv p (.tail _ hm)
    exact ⟨keepm h1 (hpv p hm), h2⟩

/-- a loop over what an iterator walks -/
theorem loop_core {x : Str} {xp : Pos} {body : List Stmt} {I : Addr} {oI : Obj} {fp : List Addr} {items : List AV} {P : Nat → Value → Prop} {St : Nat → Heap → Prop} {pvs : List (Addr × Obj)}
    {A A₀ : Around} {base : Heap} {outer : List Env} {s : Shared} {Q : Flow → Shared → Prop} {E : Value → Shared → Prop} {R : AF → Loc → AH → Prop} (J : Nat → Loc → AH → Prop)
    (am : Amb W fi dp un A A₀ base h₀ outer L) (Wk : Walks PG W.w A I fp [I] items.length P St) (hfp : ∀ b ∈ fp, b = I ∨ ∃ o, (b, o) ∈ pvs) (hP : ∀ i v, P i v → ∃ av, items[i]? = some av ∧ VR av v)
    (hSt : ∀ i h, St i h → ∃ o, h.get? I = some o) (hl : locIn fi.scope x = true) (hpvI : ∀ p ∈ pvs ++ pv, p.1 ≠ I)
    (lr : LocR loc m) (hp : Hp W h₀ L m led ((I, oI) :: (pvs ++ pv)) H s.heap) (st0 : St 0 s.heap) (j0 : J 0 loc H)
    (turn : ∀ k loc1 H1 av, J k loc1 H1 → items[k]? = some av → WpSS W fi dp un (setL loc1 x av) H1 body (fun f loc2 H2 => match f with | .next | .cont => J (k + 1) loc2 H2 | .brk => R .next loc2 H2 | .ret v => R (.ret v) loc2 H2) X)
    (fin : ∀ loc1 H1, J items.length loc1 H1 → R .next loc1 H1)
    (hQ : ∀ f af loc' m' H' led' h' tk, R af loc' H' → FlR af f → LocR loc' m' → Hp W h₀ L m' led' pv H' h' → Q f { s with heap := h', toks := tk })
    (hE : EE W.w.params X h₀ L pv base (fi.env L) outer s E) :
    codeAny (MD W) A (.forLoop (.Name x xp) (.ref I) body [] (fi.env L)) (fun r s' => match r with | .ok f => Q f s' | .error e => cameBackBy (MD W) A (fi.env L) E e s') s := by
  have hE' := ee_loop am hE
  refine codeAny_forLoop (prog := PG) (w := W.w) (fun n s' => ∃ k loc1 m1 H1 led1 oI1 h1 tk1, s' = { s with heap := h1, toks := tk1 } ∧ k ≤ items.length ∧ n = items.length + 1 - k ∧ J k loc1 H1 ∧ LocR loc1 m1 ∧ Hp W h₀ L m1 led1 ((I, oI1) :: (pvs ++ pv)) H1 h1 ∧ St k h1) ?_ (items.length + 1)
    ⟨0, loc, m, H, led, oI, s.heap, s.toks, rfl, Nat.zero_le _, rfl, j0, lr, hp, st0⟩ (fun _ => rfl)
  rintro n s' ⟨k, loc1, m1, H1, led1, oI1, h1, tk1, rfl, hk, rfl, j, lr1, hp1, st1⟩
  by_cases hlt : k < items.length
  · refine Wk.item k _ _ _ hlt st1 fun v h2 tk2 hPv st2 hkeep => ?_
    obtain ⟨av, hav, hv⟩ := hP k v hPv
    obtain ⟨o2, ho2⟩ := hSt _ _ st2
    have hp2 := hp1.iter hpvI (fun b o hb e => hkeep b o (by simpa using hb) e) ho2
    refine wpAny_assign_Name (store_av hl am lr1 hp2 hv fun m3 h3 tk3 lr3 hp3 => ?_)
    refine (turn k loc1 H1 av j hav).run A _ base h₀ outer L m3 _ _ _ _ _ am lr3 hp3 (fun f af loc4 m4 H4 led4 h4 tk4 r4 fr4 lr4 hp4 => ?_) (EE.weaken hE' fun p hp => .tail _ (List.mem_append_right _ hp))
    have stk : St (k + 1) h4 := by
      refine Wk.frame (k + 1) h2 h4 st2 fun b hb o e => ?_
      have key : ∀ ob, (b, ob) ∈ (I, o2) :: (pvs ++ pv) → h4.get? b = some o := fun ob hm => by
        have e2 := (hp2.nw _ (hp2.pv _ hm).1).1
        have e4 := (hp4.nw _ (hp4.pv _ hm).1).1
        dsimp only at e2 e4
        rw [e] at e2; cases e2; exact e4
      rcases hfp b hb with rfl | ⟨o', ho'⟩
      · exact key o2 (.head _)
      · exact key o' (.tail _ (List.mem_append_left _ ho'))
    have again : J (k + 1) loc4 H4 → ∃ m, m < items.length + 1 - k ∧ ∃ k loc1 m1 H1 led1 oI1 h1 tk1, ({ s with heap := h4, toks := tk4 } : Shared) = { s with heap := h1, toks := tk1 } ∧ k ≤ items.length ∧ m = items.length + 1 - k ∧ J k loc1 H1 ∧ LocR loc1 m1 ∧ Hp W h₀ L m1 led1 ((I, oI1) :: (pvs ++ pv)) H1 h1 ∧ St k h1 := fun j4 =>
      ⟨items.length + 1 - (k + 1), by omega, k + 1, loc4, m4, H4, led4, o2, h4, tk4, rfl, by omega, rfl, j4, lr4, hp4, stk⟩
    have outp : Hp W h₀ L m4 led4 pv H4 h4 := ⟨hp4.fr, hp4.nw, hp4.ord, hp4.hp, fun p hpp => hp4.pv p (.tail _ (List.mem_append_right _ hpp))⟩
    cases af with
    | next => cases fr4; exact again r4
    | cont => cases fr4; exact again r4
    | brk => cases fr4; exact hQ _ _ _ _ _ _ _ _ r4 rfl lr4 outp
    | ret w => obtain ⟨v', rfl, hv'⟩ := fr4; exact hQ _ _ _ _ _ _ _ _ r4 ⟨v', rfl, hv'⟩ lr4 outp
  · obtain rfl : k = items.length := by omega
    refine Wk.done _ _ _ st1 fun h2 tk2 hkeep => ?_
    refine wpAny_execs_nil ?_
    have hp2 := hp1.dropI hpvI (fun b o hb e => hkeep b o (by simpa using hb) e)
    have outp : Hp W h₀ L m1 (led1.filter fun p => !decide (p.1 = I)) pv H1 h2 := ⟨hp2.fr, hp2.nw, hp2.ord, hp2.hp, fun p hpp => hp2.pv p (List.mem_append_right _ hpp)⟩
    exact hQ _ _ _ _ _ _ _ _ (fin _ _ j) rfl lr1 outp

theorem s_while {test : Expr} {body : List Stmt} {pos : Pos} {R : AF → Loc → AH → Prop} (J : Nat → Loc → AH → Prop) (n0 : Nat) (j0 : J n0 loc H)
    (turn : ∀ n loc1 H1, J n loc1 H1 → WpT W fi dp un loc1 H1 test (fun b H2 => (b = true → WpSS W fi dp un loc1 H2 body (fun f loc2 H2 => match f with | .next | .cont => ∃ n', n' < n ∧ J n' loc2 H2 | .brk => R .next loc2 H2 | .ret v => R (.ret v) loc2 H2) X) ∧ (b = false → R .next loc1 H2)) X) :
    WpS W fi dp un loc H (.While test body [] pos) R X := by
  constructor
  intro A A₀ base h₀ outer L m led pv s Q E am lr hp hQ hE
  have hE' := ee_loop am hE
  refine wpAny_While (codeAny_whileLoop (prog := PG) (w := W.w) (fun n s' => ∃ loc1 m1 H1 led1 h1 tk1, s' = { s with heap := h1, toks := tk1 } ∧ J n loc1 H1 ∧ LocR loc1 m1 ∧ Hp W h₀ L m1 led1 pv H1 h1) ?_ n0 ⟨loc, m, H, led, s.heap, s.toks, rfl, j0, lr, hp⟩)
  rintro n s' ⟨loc1, m1, H1, led1, h1, tk1, rfl, j, lr1, hp1⟩
  refine (turn n loc1 H1 j).run A _ base h₀ outer L m1 _ pv _ _ _ am lr1 hp1 (fun b H2 led2 h2 tk2 r2 hp2 => ?_) (hE' m1)
  cases b with
  | false =>
    simp only [Bool.false_eq_true, if_false]
    exact wpAny_execs_nil (hQ _ _ _ _ _ _ _ _ (r2.2 rfl) rfl lr1 hp2)
  | true =>
    simp only [if_true]
    refine (r2.1 rfl).run A _ base h₀ outer L m1 _ pv _ _ _ am lr1 hp2 (fun f af loc4 m4 H4 led4 h4 tk4 r4 fr4 lr4 hp4 => ?_) hE'
    cases af with
    | next => cases fr4; obtain ⟨n', h1, h2⟩ := r4; exact ⟨n', h1, loc4, m4, H4, led4, h4, tk4, rfl, h2, lr4, hp4⟩
    | cont => cases fr4; obtain ⟨n', h1, h2⟩ := r4; exact ⟨n', h1, loc4, m4, H4, led4, h4, tk4, rfl, h2, lr4, hp4⟩
    | brk => cases fr4; exact hQ _ _ _ _ _ _ _ _ r4 rfl lr4 hp4
    | ret w => obtain ⟨v', rfl, hv'⟩ := fr4; exact hQ _ _ _ _ _ _ _ _ r4 ⟨v', rfl, hv'⟩ lr4 hp4
end

theorem vr_int {i : Int} {v : Value} (h : VR (.int i) v) : ∃ t, v = .int i t := h
theorem vr_str {x : Str} {v : Value} (h : VR (.str x) v) : ∃ t, v = .str x t := h

section
variable {W : Wd} {fi : Fi} {dp un : Nat} {loc : Loc} {H : AH} {X : Xs} {R : AV → AH → Prop}

/-! binary operations -/
theorem b_add {a b : Int} (r : R (.int (a + b)) H) : BinOK W dp un H .Add (.int a) (.int b) R X := by
  rintro _ _ ⟨t, rfl⟩ ⟨u, rfl⟩
  constructor
  intro fi A A₀ base h₀ outer L m led pv s Q E am hp hQ hE
  with_reducible refine add_int ?_
  exact hQ _ _ _ _ s.heap _ r ⟨_, rfl⟩ hp
theorem b_sub {a b : Int} (r : R (.int (a - b)) H) : BinOK W dp un H .Sub (.int a) (.int b) R X := by
  rintro _ _ ⟨t, rfl⟩ ⟨u, rfl⟩
  constructor
  intro fi A A₀ base h₀ outer L m led pv s Q E am hp hQ hE
  with_reducible refine sub_int ?_
  exact hQ _ _ _ _ s.heap _ r ⟨_, rfl⟩ hp
theorem b_mul {a b : Int} (hm : IntMulOk a b) (r : R (.int (a * b)) H) : BinOK W dp un H .Mult (.int a) (.int b) R X := by
  rintro _ _ ⟨t, rfl⟩ ⟨u, rfl⟩
  constructor
  intro fi A A₀ base h₀ outer L m led pv s Q E am hp hQ hE
  with_reducible refine mul_int ?_ hm
  exact hQ _ _ _ _ s.heap _ r ⟨_, rfl⟩ hp
theorem b_mod {a b : Int} (hb : b ≠ 0) (r : R (.int (Int.fmod a b)) H) : BinOK W dp un H .Mod (.int a) (.int b) R X := by
  rintro _ _ ⟨t, rfl⟩ ⟨u, rfl⟩
  constructor
  intro fi A A₀ base h₀ outer L m led pv s Q E am hp hQ hE
  exact mod_int' hb (hQ _ _ _ _ s.heap _ r ⟨_, rfl⟩ hp)
theorem b_div {a b : Int} (hb : b ≠ 0) (hd : Builtin.divisionGoesByPylong a b = false) (r : R (.int (Int.fdiv a b)) H) : BinOK W dp un H .FloorDiv (.int a) (.int b) R X := by
  rintro _ _ ⟨t, rfl⟩ ⟨u, rfl⟩
  constructor
  intro fi A A₀ base h₀ outer L m led pv s Q E am hp hQ hE
  with_reducible refine floordiv_int hb ?_ (.inl hd)
  exact hQ _ _ _ _ s.heap _ r ⟨_, rfl⟩ hp
theorem b_pow {a n : Int} (h0 : 0 ≤ n) (hb : (Builtin.Int.intBits a : Int) * n ≤ 2 ^ 27) (r : R (.int (a ^ n.toNat)) H) : BinOK W dp un H .Pow (.int a) (.int n) R X := by
  rintro _ _ ⟨t, rfl⟩ ⟨u, rfl⟩
  constructor
  intro fi A A₀ base h₀ outer L m led pv s Q E am hp hQ hE
  with_reducible refine pow_int h0 hb ?_
  exact hQ _ _ _ _ s.heap _ r ⟨_, rfl⟩ hp
theorem b_cat {x y : Str} (hl : x.length + y.length ≤ sizeLine) (r : R (.str (x ++ y)) H) : BinOK W dp un H .Add (.str x) (.str y) R X := by
  rintro _ _ ⟨t, rfl⟩ ⟨u, rfl⟩
  constructor
  intro fi A A₀ base h₀ outer L m led pv s Q E am hp hQ hE
  with_reducible refine add_str ?_ hl
  exact fun t' tk => hQ _ _ _ _ s.heap _ r ⟨_, rfl⟩ hp
theorem b_rept {x : Str} {n : Int} (hm : MulOk x n) (r : R (.str (Txt.mul x n)) H) : BinOK W dp un H .Mult (.str x) (.int n) R X := by
  rintro _ _ ⟨t, rfl⟩ ⟨u, rfl⟩
  constructor
  intro fi A A₀ base h₀ outer L m led pv s Q E am hp hQ hE
  with_reducible refine SB.mul hm ?_
  exact fun t' tk => hQ _ _ _ _ s.heap _ r ⟨_, rfl⟩ hp
theorem u_neg {a : Int} (r : R (.int (-a)) H) : UnOK W dp un H .USub (.int a) R X := by
  rintro _ ⟨t, rfl⟩
  constructor
  intro fi A A₀ base h₀ outer L m led pv s Q E am hp hQ hE
  with_reducible refine PyProof.Rows.neg_int ?_
  exact hQ _ _ _ _ s.heap _ r ⟨_, rfl⟩ hp
theorem i_add {a b : Int} (r : R (.int (a + b)) H) : InpOK W dp un H .Add (.int a) (.int b) R X := by
  rintro _ _ ⟨t, rfl⟩ ⟨u, rfl⟩
  constructor
  intro fi A A₀ base h₀ outer L m led pv s Q E am hp hQ hE
  with_reducible refine iadd_int ?_
  exact hQ _ _ _ _ s.heap _ r ⟨_, rfl⟩ hp
theorem i_cat {x y : Str} (hl : x.length + y.length ≤ sizeLine) (r : R (.str (x ++ y)) H) : InpOK W dp un H .Add (.str x) (.str y) R X := by
  rintro _ _ ⟨t, rfl⟩ ⟨u, rfl⟩
  constructor
  intro fi A A₀ base h₀ outer L m led pv s Q E am hp hQ hE
  with_reducible refine SBL.iadd ?_ hl
  exact fun t' tk _ => hQ _ _ _ _ s.heap _ r ⟨_, rfl⟩ hp

/-! comparisons -/
theorem c_eqI {a b : Int} (r : R (.bool (a == b)) H) : CmpOK W dp un H .Eq (.int a) (.int b) R X := by
  rintro _ _ ⟨t, rfl⟩ ⟨u, rfl⟩
  constructor
  intro fi A A₀ base h₀ outer L m led pv s Q E am hp hQ hE
  with_reducible refine eq_int ?_
  exact hQ _ _ _ _ s.heap s.toks r rfl hp
theorem c_ltI {a b : Int} (r : R (.bool (decide (a < b))) H) : CmpOK W dp un H .Lt (.int a) (.int b) R X := by
  rintro _ _ ⟨t, rfl⟩ ⟨u, rfl⟩
  constructor
  intro fi A A₀ base h₀ outer L m led pv s Q E am hp hQ hE
  with_reducible refine lt_int ?_
  exact hQ _ _ _ _ s.heap s.toks r rfl hp
theorem c_leI {a b : Int} (r : R (.bool (decide (a ≤ b))) H) : CmpOK W dp un H .LtE (.int a) (.int b) R X := by
  rintro _ _ ⟨t, rfl⟩ ⟨u, rfl⟩
  constructor
  intro fi A A₀ base h₀ outer L m led pv s Q E am hp hQ hE
  with_reducible refine le_int ?_
  exact hQ _ _ _ _ s.heap s.toks r rfl hp
theorem c_gtI {a b : Int} (r : R (.bool (decide (b < a))) H) : CmpOK W dp un H .Gt (.int a) (.int b) R X := by
  rintro _ _ ⟨t, rfl⟩ ⟨u, rfl⟩
  constructor
  intro fi A A₀ base h₀ outer L m led pv s Q E am hp hQ hE
  with_reducible refine gt_int ?_
  exact hQ _ _ _ _ s.heap s.toks r rfl hp
theorem c_geI {a b : Int} (r : R (.bool (decide (b ≤ a))) H) : CmpOK W dp un H .GtE (.int a) (.int b) R X := by
  rintro _ _ ⟨t, rfl⟩ ⟨u, rfl⟩
  constructor
  intro fi A A₀ base h₀ outer L m led pv s Q E am hp hQ hE
  with_reducible refine ge_int ?_
  exact hQ _ _ _ _ s.heap s.toks r rfl hp
theorem c_eqS {x y : Str} (r : R (.bool (x == y)) H) : CmpOK W dp un H .Eq (.str x) (.str y) R X := by
  rintro _ _ ⟨t, rfl⟩ ⟨u, rfl⟩
  constructor
  intro fi A A₀ base h₀ outer L m led pv s Q E am hp hQ hE
  with_reducible refine eq_str ?_
  exact hQ _ _ _ _ s.heap s.toks r rfl hp
theorem c_neS {x y : Str} (r : R (.bool (x != y)) H) : CmpOK W dp un H .NotEq (.str x) (.str y) R X := by
  rintro _ _ ⟨t, rfl⟩ ⟨u, rfl⟩
  constructor
  intro fi A A₀ base h₀ outer L m led pv s Q E am hp hQ hE
  with_reducible refine ne_str ?_
  exact hQ _ _ _ _ s.heap s.toks r rfl hp
theorem c_leS {x y : Str} (r : R (.bool (!decide (y.cps.toList < x.cps.toList))) H) : CmpOK W dp un H .LtE (.str x) (.str y) R X := by
  rintro _ _ ⟨t, rfl⟩ ⟨u, rfl⟩
  constructor
  intro fi A A₀ base h₀ outer L m led pv s Q E am hp hQ hE
  with_reducible refine P.le_str ?_
  exact hQ _ _ _ _ s.heap s.toks r rfl hp
theorem c_inS {x y : Str} (r : R (.bool (Txt.contains y x)) H) : CmpOK W dp un H .In (.str x) (.str y) R X := by
  rintro _ _ ⟨t, rfl⟩ ⟨u, rfl⟩
  constructor
  intro fi A A₀ base h₀ outer L m led pv s Q E am hp hQ hE
  with_reducible refine SB.contains ?_
  exact hQ _ _ _ _ s.heap s.toks r rfl hp
theorem c_notinS {x y : Str} (r : R (.bool (!Txt.contains y x)) H) : CmpOK W dp un H .NotIn (.str x) (.str y) R X := by
  rintro _ _ ⟨t, rfl⟩ ⟨u, rfl⟩
  constructor
  intro fi A A₀ base h₀ outer L m led pv s Q E am hp hQ hE
  with_reducible refine SB.notContains ?_
  exact hQ _ _ _ _ s.heap s.toks r rfl hp
/-- texts as abstract values -/
noncomputable def avStrs (ys : List Str) : List AV := ys.map .str
theorem strsAre_of : ∀ {ys : List Str} {vs : List Value}, VRs (avStrs ys) vs → StrsAre vs ys
  | [], [], _ => .nil
  | y :: ys, v :: vs, ⟨⟨t, h⟩, r⟩ => by rw [h]; exact .cons y t (strsAre_of r)
  | [], _ :: _, h => h.elim
  | _ :: _, [], h => h.elim
theorem Hp.tup {h₀ h : Heap} {L : Addr} {m : Str → Option Value} {led pv : List (Addr × Obj)} (hp : Hp W h₀ L m led pv H h) {a : Addr} {vs : List AV} (e : H a = some (.tup vs)) : ∃ ws, IsTup h a ws.toArray ∧ VRs vs ws := by
  obtain ⟨ob, m1, ws, n, e1, hv⟩ := hp.hp a _ e
  exact ⟨ws, ⟨ob, hp.nw.get m1, by rw [e1], n, by rw [e1]⟩, hv⟩
theorem Hp.lst {h₀ h : Heap} {L : Addr} {m : Str → Option Value} {led pv : List (Addr × Obj)} (hp : Hp W h₀ L m led pv H h) {a : Addr} {vs : List AV} (e : H a = some (.lst vs)) : ∃ ws, h.IsList a ws.toArray ∧ VRs vs ws := by
  obtain ⟨ob, m1, ws, n, e1, hv⟩ := hp.hp a _ e
  exact ⟨ws, ⟨ob, hp.nw.get m1, by rw [e1], n, by rw [e1]⟩, hv⟩
theorem c_inT {x : Str} {a : Addr} {ys : List Str} (e : H a = some (.tup (avStrs ys))) (r : R (.bool (ys.any (· == x))) H) : CmpOK W dp un H .In (.str x) (.ref a) R X := by
  rintro _ _ ⟨t, rfl⟩ h2
  constructor
  intro fi A A₀ base h₀ outer L m led pv s Q E am hp hQ hE
  cases h2
  obtain ⟨ws, ht, hv⟩ := hp.tup e
  exact in_tuple_strs ht (strsAre_of hv) (hQ _ _ _ _ s.heap s.toks r rfl hp)
theorem c_notinT {x : Str} {a : Addr} {ys : List Str} (e : H a = some (.tup (avStrs ys))) (r : R (.bool (!(ys.any (· == x)))) H) : CmpOK W dp un H .NotIn (.str x) (.ref a) R X := by
  rintro _ _ ⟨t, rfl⟩ h2
  constructor
  intro fi A A₀ base h₀ outer L m led pv s Q E am hp hQ hE
  cases h2
  obtain ⟨ws, ht, hv⟩ := hp.tup e
  exact notin_tuple_strs ht (strsAre_of hv) (hQ _ _ _ _ s.heap s.toks r rfl hp)
theorem c_inL {x : Str} {a : Addr} {ys : List Str} (e : H a = some (.lst (avStrs ys))) (r : R (.bool (ys.any (· == x))) H) : CmpOK W dp un H .In (.str x) (.ref a) R X := by
  rintro _ _ ⟨t, rfl⟩ h2
  constructor
  intro fi A A₀ base h₀ outer L m led pv s Q E am hp hQ hE
  cases h2
  obtain ⟨ws, ht, hv⟩ := hp.lst e
  exact in_list_strs ht (strsAre_of hv) (hQ _ _ _ _ s.heap s.toks r rfl hp)

/-! displays -/
theorem vrs_len : ∀ {as : List AV} {vs : List Value}, VRs as vs → as.length = vs.length
  | [], [], _ => rfl
  | _ :: _, _ :: _, ⟨_, r⟩ => by rw [List.length_cons, List.length_cons, vrs_len r]
  | [], _ :: _, h => h.elim
  | _ :: _, [], h => h.elim
theorem e_tuple {es : List Expr} {k : Nat} {pos : Pos} (h : WpAs W fi dp un loc H pos es (fun as H2 => as.length ≤ 1000 ∧ ∀ a, H2 a = none → R (.ref a) (upd H2 a (.tup as))) X) : WpE W fi dp un loc H (.Tuple es k pos) R X := by
  constructor
  intro A A₀ base h₀ outer L m led pv s Q E am lr hp hQ hE
  refine Tuple_ (h.run A A₀ base h₀ outer L m led pv s _ E am lr hp (fun vs avs H1 led1 h1 tk1 r1 v1 hp1 => ?_) hE)
  have hl : ∀ p ∈ led1, p.1 < h1.objs.size := fun p hpp => Heap.lt_size (hp1.nw p hpp).1
  have hsz : vs.length ≤ sizeLine := by rw [← vrs_len v1]; exact Nat.le_trans r1.1 (by decide)
  exact newTuple_N hp1.fr hp1.nw (fun h' F' N' => hQ _ _ _ _ h' _ (r1.2 _ (hp1.fresh hl)) rfl (hp1.new ⟨vs, 0, rfl, v1⟩ F' N' hl)) hsz
theorem e_list {es : List Expr} {pos : Pos} (h : WpAs W fi dp un loc H pos es (fun as H2 => as.length ≤ 1000 ∧ ∀ a, H2 a = none → R (.ref a) (upd H2 a (.lst as))) X) : WpE W fi dp un loc H (.List es pos) R X := by
  constructor
  intro A A₀ base h₀ outer L m led pv s Q E am lr hp hQ hE
  refine List_ (h.run A A₀ base h₀ outer L m led pv s _ E am lr hp (fun vs avs H1 led1 h1 tk1 r1 v1 hp1 => ?_) hE)
  have hl : ∀ p ∈ led1, p.1 < h1.objs.size := fun p hpp => Heap.lt_size (hp1.nw p hpp).1
  have hsz : vs.length ≤ sizeLine := by rw [← vrs_len v1]; exact Nat.le_trans r1.1 (by decide)
  exact newList_K hp1.fr hp1.nw (fun l h' F' N' hlt => hQ _ _ _ _ h' _ (r1.2 _ (hp1.fresh hlt)) rfl (hp1.new ⟨vs, 0, rfl, v1⟩ F' N' hlt)) hsz
end

noncomputable def BR : List (Str × AV) → List (Str × Value) → Prop
  | [], [] => True
  | b :: bs, v :: vs => (b.1 = v.1 ∧ VR b.2 v.2) ∧ BR bs vs
  | _, _ => False
noncomputable def locOf (binds : List (Str × AV)) : Loc := fun y => binds.reverse.lookup y
theorem BR.append : ∀ {a c : List (Str × AV)} {b d : List (Str × Value)}, BR a b → BR c d → BR (a ++ c) (b ++ d)
  | [], _, [], _, _, h => h
  | _ :: _, _, _ :: _, _, ⟨h1, h2⟩, h => ⟨h1, BR.append h2 h⟩
  | [], _, _ :: _, _, h, _ => h.elim
  | _ :: _, _, [], _, h, _ => h.elim
theorem BR.reverse : ∀ {a : List (Str × AV)} {b : List (Str × Value)}, BR a b → BR a.reverse b.reverse
  | [], [], _ => trivial
  | x :: a, y :: b, ⟨h1, h2⟩ => by rw [List.reverse_cons, List.reverse_cons]; exact BR.append (BR.reverse h2) ⟨h1, trivial⟩
  | [], _ :: _, h => h.elim
  | _ :: _, [], h => h.elim
theorem BR.lookup {x : Str} {av : AV} : ∀ {a : List (Str × AV)} {b : List (Str × Value)}, BR a b → a.lookup x = some av → ∃ v, b.lookup x = some v ∧ VR av v
  | [], [], _, h => by cases h
  | (k, w) :: a, (k', v) :: b, ⟨⟨h1, h2⟩, hr⟩, h => by
    dsimp only at h1 h2
    subst h1
    rw [List.lookup_cons] at h ⊢
    cases q : x == k with
    | true => rw [q] at h; cases h; exact ⟨v, rfl, h2⟩
    | false => rw [q] at h; exact BR.lookup hr h
  | [], _ :: _, h, _ => h.elim
  | _ :: _, [], h, _ => h.elim
theorem BR.loc {a : List (Str × AV)} {b : List (Str × Value)} (h : BR a b) : LocR (locOf a) (fun y => b.reverse.lookup y) := fun x av e => BR.lookup h.reverse e
theorem BR.names {P : Str → Prop} : ∀ {a : List (Str × AV)} {b : List (Str × Value)}, BR a b → (∀ y ∈ a, P y.1) → ∀ y ∈ b, P y.1
  | [], [], _, _ => fun _ hy => nomatch hy
  | x :: a, z :: b, ⟨⟨h1, _⟩, h2⟩, h => fun y hy => by
    rcases List.mem_cons.mp hy with rfl | hy
    · rw [← h1]; exact h _ (.head _)
    · exact BR.names h2 (fun y hy => h y (.tail _ hy)) y hy
  | [], _ :: _, h, _ => h.elim
  | _ :: _, [], h, _ => h.elim

section
variable {W : Wd} {fi : Fi} {dp un : Nat} {loc : Loc} {H : AH} {X : Xs} {R : AV → AH → Prop}

/-- the exception leaves a frame -/
theorem leave_exc {P : Params} {A : Around} {base g : Heap} {outer : List Env} {L : Addr} {m : Str → Option Value} {pv : List (Addr × Obj)} {fi : Fi} {s' : Shared} {e : Addr} {k : Str} {a : Int} {Q : Unit → Shared → Prop} {E : Value → Shared → Prop}
    (B : Below A base outer g) (hx : ExcAt P g L m pv base (fi.env L) outer e k a s'.heap)
    (hQ : ∀ h' B d, XO P base B outer e d k a (some .none) h' → (∀ p ∈ pv, B.get? p.1 = some p.2 ∧ p.1 ≠ d) → g.UpToSlots h' → Q () { s' with heap := h' }) : wpAny (MD W) (A.deeper (fi.env L)) (leaving (fi.env L) (.ref e)) Q E s' := by
  obtain ⟨g', B', d, tr, F, up, x, hp, ht⟩ := hx
  unfold leaving
  refine wpAny_bind (x.note (s := s') ht (Around.frames_deeper B.stack) rfl fun h1 x1 up1 => ?_)
  refine x1.land (s := { s' with heap := h1 }) fun h2 x2 up2 => ?_
  obtain ⟨k1, k2, k3, ⟨_, _, k4⟩, k5, k6, k7⟩ := x2
  exact hQ h2 B' d ⟨k1, k2, k3, k4, k5, k6, k7⟩ hp (((Heap.UpToSlots.of_keeps F.keep).trans up).trans (up1.trans up2))

structure FnAt (f : Addr) (name qual : Str) (params : Arguments) (body : List Stmt) (scope : Scope) (dV kV doc pm : Value) (an : Option Addr) (cdv ct : Value) : Prop where
  ok : ∀ w : World, ∃ oc od osl, List.lookup f (hd.heap_39 w.params) = some ⟨oc, od, .func (fnOf name qual params body scope dV kV doc pm an cdv ct), osl⟩
  cd : ∀ w : World, codeIn (hd.heap_39 w.params) cdv qual = true
  co : scope.isCoroutine = false
  gen : scope.isGenerator = false
  kind : scope.kind = .function
  cell : scope.names.all (fun x => !(x.2 == .cell)) = true
  ne : qual ≠ "law"

theorem code_ok {f : Addr} {name qual : Str} {params : Arguments} {body : List Stmt} {scope : Scope} {dV kV doc pm : Value} {an : Option Addr} {cdv ct : Value} (fn : FnAt f name qual params body scope dV kV doc pm an cdv ct)
    {as : List AV} {binds : List (Str × AV)} {dp' un' : Nat}
    (hb : ∀ vs s, VRs as vs → (KK W).In s.heap → ∃ bs, BindsTo s (fnOf name qual params body scope dV kV doc pm an cdv ct) ⟨vs, []⟩ bs ∧ BR binds bs) (hloc : binds.all (fun y => scope.names.lookup y.1 == some .local) = true)
    (hdp : dp + 1 ≤ dp') (hun : un + 3 ≤ un') (hroom : dp < 1000)
    (hbody : WpSS W ⟨qual, scope, f, cdv⟩ dp' un' (locOf binds) H body (fun fl _ H' => match fl with | .ret v => R v H' | _ => R .none H') X)
    {A A₀ : Around} {base h₀ : Heap} {outer : List Env} {L : Addr} {m : Str → Option Value} {led pv : List (Addr × Obj)} {s : Shared} {vs : List Value} {RR : Result → Shared → Prop}
    (am : Amb W fi dp un A A₀ base h₀ outer L) (hp : Hp W h₀ L m led pv H s.heap) (hvs : VRs as vs)
    (hQ : ∀ v av H' led' h' tk, R av H' → VR av v → Hp W h₀ L m led' pv H' h' → RR (.ok (.ret v)) { s with heap := h', toks := tk })
    (hE : ∀ e k a h' tk, X k a → ExcAt W.w.params h₀ L m pv base (fi.env L) outer e k a h' → RR (.error (.ref e)) { s with heap := h', toks := tk }) :
    codeAny (MD W) A (.call (.ref f) ⟨vs, []⟩) RR s := by
  obtain ⟨oc, od, osl, ho⟩ := fn.ok W.w
  obtain ⟨bs, hbi, hbr⟩ := hb vs s hvs (am.Kin hp)
  have hl : ∀ y ∈ binds, scope.names.lookup y.1 = some .local := fun y hy => by have := List.all_eq_true.mp hloc y hy; exact beq_iff_eq.mp this
  have hcell : ∀ x ∈ scope.names, x.2 ≠ .cell := fun x hx q => by
    have := List.all_eq_true.mp fn.cell x hx
    rw [q] at this; exact absurd this (by decide)
  refine callX_plain (cl := []) am.below hp.fr hp.nw am.T.nolimit am.frames rfl am.kind ((am.Kin hp) _ _ ho) rfl (codeRec_of (am.Kin hp) (fn.cd W.w)) (Nat.lt_of_le_of_lt am.depth hroom) hbi (hbr.names (P := fun y => scope.names.lookup y = some .local) hl) (fun g L' h₁ FG F' N' B' st lt' => ?_) hcell fn.co fn.gen fn.kind
  have am' : Amb W ⟨qual, scope, f, cdv⟩ dp' un' (A.deeper (envX qual scope L' f cdv [])) A base g (fi.env L :: outer) L' := {
    handled := am.handled
    frames := by show A.frames.map _ = _; rw [am.frames]; rfl
    depth := by show A.depth + 1 ≤ dp'; have := am.depth; omega
    units := by show A.units + 3 ≤ un'; have := am.units; omega
    below := B'
    K := am.K.keeps st
    T := am.T.keeps st
    scr := by obtain ⟨o, h1, h2⟩ := am.scr; exact ⟨o, st _ _ h1, h2⟩
    kind := fn.kind
    top := fun q => absurd q fn.ne }
  refine hbody.run _ A base g _ L' _ led pv _ _ _ am' hbr.loc ⟨F', N', hp.ord, hp.hp, hp.pv⟩ (fun fl af loc' m' H' led' h' tk r fr lr' hp' => ?_) (fun m' e k a h' tk hx hat => ?_)
  · have out : ∀ v av, R av H' → VR av v → LeaveK h₀ L m g RR v { s with heap := h', toks := tk } := fun v av hr hv =>
      leaveK_ hp'.fr hp'.nw fun F N => hQ v av H' led' h' tk hr hv ⟨F, N, hp'.ord, hp'.hp, hp'.pv⟩
    cases af with
    | next => cases fr; exact out _ .none r rfl
    | brk => cases fr; exact out _ .none r rfl
    | cont => cases fr; exact out _ .none r rfl
    | ret w => obtain ⟨v, rfl, hv⟩ := fr; exact out _ w r hv
  · exact leave_exc (fi := ⟨qual, scope, f, cdv⟩) B' hat fun h'' B d hfly hpv hup => hE e k a h'' tk hx ⟨g, B, d, _, FG, hup, hfly, hpv, .inr (.inl rfl)⟩

theorem call_def {f : Addr} {name qual : Str} {params : Arguments} {body : List Stmt} {scope : Scope} {dV kV doc pm : Value} {an : Option Addr} {cdv ct : Value} (fn : FnAt f name qual params body scope dV kV doc pm an cdv ct)
    {as : List AV} {binds : List (Str × AV)} {dp' un' : Nat}
    (hb : ∀ vs s, VRs as vs → (KK W).In s.heap → ∃ bs, BindsTo s (fnOf name qual params body scope dV kV doc pm an cdv ct) ⟨vs, []⟩ bs ∧ BR binds bs) (hloc : binds.all (fun y => scope.names.lookup y.1 == some .local) = true)
    (hdp : dp + 1 ≤ dp') (hun : un + 3 ≤ un') (hroom : dp < 1000)
    (hbody : WpSS W ⟨qual, scope, f, cdv⟩ dp' un' (locOf binds) H body (fun fl _ H' => match fl with | .ret v => R v H' | _ => R .none H') X) : Call_OK W dp un H (.ref f) as R X := by
  intro vs hvs
  constructor
  intro fi A A₀ base h₀ outer L m led pv s Q E am hp hQ hE
  exact wpAny_call (code_ok fn hb hloc hdp hun hroom hbody am hp hvs hQ hE)

theorem fnAt_of {f : Addr} {name qual : Str} {params : Arguments} {body : List Stmt} {scope : Scope} {dV kV doc pm oc : Value} {an od : Option Addr} {cdv ct : Value} {osl : Array (Option Value)}
    (ho : ∀ w : World, List.lookup f (hd.heap_39 w.params) = some ⟨oc, od, .func (fnOf name qual params body scope dV kV doc pm an cdv ct), osl⟩)
    (cd : ∀ w : World, codeIn (hd.heap_39 w.params) cdv qual = true) (co : scope.isCoroutine = false) (gen : scope.isGenerator = false) (kind : scope.kind = .function) (cell : scope.names.all (fun x => !(x.2 == .cell)) = true) (ne : qual ≠ "law") :
    FnAt f name qual params body scope dV kV doc pm an cdv ct := ⟨fun w => ⟨oc, od, osl, ho w⟩, cd, co, gen, kind, cell, ne⟩
/-- arguments bound by place -/
theorem vrs0 {vs : List Value} (h : VRs [] vs) : vs = [] := by
  cases vs with
  | nil => rfl
  | cons v r => exact h.elim
theorem vrsC {a : AV} {as : List AV} {vs : List Value} (h : VRs (a :: as) vs) : ∃ v r, vs = v :: r ∧ VR a v ∧ VRs as r := by
  cases vs with
  | nil => exact h.elim
  | cons v r => exact ⟨v, r, rfl, h.1, h.2⟩
theorem vrs1 {a1 : AV} {vs : List Value} (h : VRs [a1] vs) : ∃ v1, vs = [v1] ∧ VR a1 v1 := by
  obtain ⟨v1, r, rfl, h1, h⟩ := vrsC h
  cases vrs0 h
  exact ⟨v1, rfl, h1⟩
theorem vrs2 {a1 a2 : AV} {vs : List Value} (h : VRs [a1, a2] vs) : ∃ v1 v2, vs = [v1, v2] ∧ VR a1 v1 ∧ VR a2 v2 := by
  obtain ⟨v1, r, rfl, h1, h⟩ := vrsC h
  obtain ⟨v2, rfl, h2⟩ := vrs1 h
  exact ⟨_, v2, rfl, h1, h2⟩
theorem vrs3 {a1 a2 a3 : AV} {vs : List Value} (h : VRs [a1, a2, a3] vs) : ∃ v1 v2 v3, vs = [v1, v2, v3] ∧ VR a1 v1 ∧ VR a2 v2 ∧ VR a3 v3 := by
  obtain ⟨v1, r, rfl, h1, h⟩ := vrsC h
  obtain ⟨v2, v3, rfl, h2⟩ := vrs2 h
  exact ⟨_, v2, v3, rfl, h1, h2⟩
theorem vrs4 {a1 a2 a3 a4 : AV} {vs : List Value} (h : VRs [a1, a2, a3, a4] vs) : ∃ v1 v2 v3 v4, vs = [v1, v2, v3, v4] ∧ VR a1 v1 ∧ VR a2 v2 ∧ VR a3 v3 ∧ VR a4 v4 := by
  obtain ⟨v1, r, rfl, h1, h⟩ := vrsC h
  obtain ⟨v2, v3, v4, rfl, h2⟩ := vrs3 h
  exact ⟨_, v2, v3, v4, rfl, h1, h2⟩
theorem vrs5 {a1 a2 a3 a4 a5 : AV} {vs : List Value} (h : VRs [a1, a2, a3, a4, a5] vs) : ∃ v1 v2 v3 v4 v5, vs = [v1, v2, v3, v4, v5] ∧ VR a1 v1 ∧ VR a2 v2 ∧ VR a3 v3 ∧ VR a4 v4 ∧ VR a5 v5 := by
  obtain ⟨v1, r, rfl, h1, h⟩ := vrsC h
  obtain ⟨v2, v3, v4, v5, rfl, h2⟩ := vrs4 h
  exact ⟨_, v2, v3, v4, v5, rfl, h1, h2⟩
theorem binds_of {fd : FuncData} {as : List AV} {binds : List (Str × AV)} (h : ∀ vs, VRs as vs → ∃ bs, bindArgs fd ⟨vs, []⟩ = pure bs ∧ BR binds bs) :
    ∀ vs (s : Shared), VRs as vs → (KK W).In s.heap → ∃ bs, BindsTo s fd ⟨vs, []⟩ bs ∧ BR binds bs := fun vs s hv _ => let ⟨bs, e, b⟩ := h vs hv; ⟨bs, BindsTo.of_eq e, b⟩
theorem binds0 {fd : FuncData} (h : bindArgs fd ⟨[], []⟩ = pure []) : ∀ vs, VRs [] vs → ∃ bs, bindArgs fd ⟨vs, []⟩ = pure bs ∧ BR [] bs := fun vs hv => by
  cases vrs0 hv
  exact ⟨_, h, trivial⟩
theorem binds1 {fd : FuncData} {a1 : AV} {n1 : Str} (h : ∀ v1, bindArgs fd ⟨[v1], []⟩ = pure [(n1, v1)]) : ∀ vs, VRs [a1] vs → ∃ bs, bindArgs fd ⟨vs, []⟩ = pure bs ∧ BR [(n1, a1)] bs := fun vs hv => by
  obtain ⟨v1, rfl, h1⟩ := vrs1 hv
  exact ⟨_, h v1, ⟨rfl, h1⟩, trivial⟩
theorem binds2 {fd : FuncData} {a1 a2 : AV} {n1 n2 : Str} (h : ∀ v1 v2, bindArgs fd ⟨[v1, v2], []⟩ = pure [(n1, v1), (n2, v2)]) : ∀ vs, VRs [a1, a2] vs → ∃ bs, bindArgs fd ⟨vs, []⟩ = pure bs ∧ BR [(n1, a1), (n2, a2)] bs := fun vs hv => by
  obtain ⟨v1, v2, rfl, h1, h2⟩ := vrs2 hv
  exact ⟨_, h v1 v2, ⟨rfl, h1⟩, ⟨rfl, h2⟩, trivial⟩
theorem binds3 {fd : FuncData} {a1 a2 a3 : AV} {n1 n2 n3 : Str} (h : ∀ v1 v2 v3, bindArgs fd ⟨[v1, v2, v3], []⟩ = pure [(n1, v1), (n2, v2), (n3, v3)]) : ∀ vs, VRs [a1, a2, a3] vs → ∃ bs, bindArgs fd ⟨vs, []⟩ = pure bs ∧ BR [(n1, a1), (n2, a2), (n3, a3)] bs := fun vs hv => by
  obtain ⟨v1, v2, v3, rfl, h1, h2, h3⟩ := vrs3 hv
  exact ⟨_, h v1 v2 v3, ⟨rfl, h1⟩, ⟨rfl, h2⟩, ⟨rfl, h3⟩, trivial⟩
theorem binds5 {fd : FuncData} {a1 a2 a3 a4 a5 : AV} {n1 n2 n3 n4 n5 : Str} (h : ∀ v1 v2 v3 v4 v5, bindArgs fd ⟨[v1, v2, v3, v4, v5], []⟩ = pure [(n1, v1), (n2, v2), (n3, v3), (n4, v4), (n5, v5)]) : ∀ vs, VRs [a1, a2, a3, a4, a5] vs → ∃ bs, bindArgs fd ⟨vs, []⟩ = pure bs ∧ BR [(n1, a1), (n2, a2), (n3, a3), (n4, a4), (n5, a5)] bs := fun vs hv => by
  obtain ⟨v1, v2, v3, v4, v5, rfl, h1, h2, h3, h4, h5⟩ := vrs5 hv
  exact ⟨_, h v1 v2 v3 v4 v5, ⟨rfl, h1⟩, ⟨rfl, h2⟩, ⟨rfl, h3⟩, ⟨rfl, h4⟩, ⟨rfl, h5⟩, trivial⟩

/-- a class of the text, made by its own __init__ -/
structure ClsOK (C fI : Addr) : Prop where
  ok : ∀ w : World, makesIn (hd.heap_39 w.params) C = true ∧ findIn (hd.heap_39 w.params) (.ref C) "__init__" = some (some (.ref fI)) ∧ isFn (hd.heap_39 w.params) (.ref fI) = true
theorem amb_under {A A₀ : Around} {base h₀ : Heap} {outer : List Env} {L C : Addr} {pos : List Value} (am : Amb W fi dp un A A₀ base h₀ outer L) :
    Amb W fi (dp + 1) (un + 1) (A.under (.builtin "type.__call__" ⟨.ref C :: pos, []⟩)) A₀ base h₀ outer L := by
  have hw : (Code.builtin "type.__call__" ⟨.ref C :: pos, []⟩).weight = 1 := by rfl
  have hu : (Code.builtin "type.__call__" ⟨.ref C :: pos, []⟩).cUnits = 1 := by rfl
  have he : (Code.builtin "type.__call__" ⟨.ref C :: pos, []⟩).envs = [] := by rfl
  exact {
    handled := am.handled
    frames := by
      show pushEnvs (Code.builtin "type.__call__" ⟨.ref C :: pos, []⟩).envs A.frames = _
      rw [he]; exact am.frames
    depth := by show A.depth + _ ≤ _; rw [hw]; have := am.depth; omega
    units := by show A.units + _ ≤ _; rw [hu]; have := am.units; omega
    below := am.below
    K := am.K
    T := am.T
    scr := am.scr
    kind := am.kind
    top := am.top }
theorem call_cls_ok {C fI : Addr} (hc : ClsOK C fI) {name qual : Str} {params : Arguments} {body : List Stmt} {scope : Scope} {dV kV doc pm : Value} {an : Option Addr} {cdv ct : Value} (fn : FnAt fI name qual params body scope dV kV doc pm an cdv ct)
    {as : List AV} {binds : Addr → List (Str × AV)} {dp' un' : Nat}
    (hb : ∀ x vs s, VRs (.ref x :: as) vs → (KK W).In s.heap → ∃ bs, BindsTo s (fnOf name qual params body scope dV kV doc pm an cdv ct) ⟨vs, []⟩ bs ∧ BR (binds x) bs) (hloc : ∀ x, (binds x).all (fun y => scope.names.lookup y.1 == some .local) = true)
    (hdp : dp + 2 ≤ dp') (hun : un + 4 ≤ un') (hroom : dp + 1 < 1000)
    (hbody : ∀ x d, H x = none → H d = none → x ≠ d → WpSS W ⟨qual, scope, fI, cdv⟩ dp' un' (locOf (binds x)) (upd (upd H d (.dict [])) x (.inst C d)) body (fun fl _ H' => (match fl with | .ret v => v = .none | _ => True) ∧ R (.ref x) H') X) : Call_OK W dp un H (.ref C) as R X := by
  intro vs hvs
  constructor
  intro fi A A₀ base h₀ outer L m led pv s Q E am hp hQ hE
  obtain ⟨k1, k2, k3⟩ := hc.ok W.w
  refine call_cls hp.fr am.K hp.nw k1 k2 k3 fun x dx h' F' N' l1 l2 => ?_
  have hd1 : H dx = none := hp.fresh l1
  have l1' : ∀ p ∈ led, p.1 < x := fun p hpp => Nat.lt_trans (l1 p hpp) l2
  have hx1 : H x = none := hp.fresh l1'
  have hp' : Hp W h₀ L m ((x, instObj C dx) :: (dx, dictOf [] 0) :: led) pv (upd (upd H dx (.dict [])) x (.inst C dx)) h' := by
    refine ⟨F', N', ?_, ?_, ?_⟩
    · rw [List.map_cons, List.map_cons]
      refine List.Pairwise.cons (fun b hb => ?_) (List.Pairwise.cons (fun b hb => ?_) hp.ord)
      · rcases List.mem_cons.mp hb with rfl | hb
        · exact l2
        · obtain ⟨p, hpp, rfl⟩ := List.mem_map.mp hb; exact l1' p hpp
      · obtain ⟨p, hpp, rfl⟩ := List.mem_map.mp hb; exact l1 p hpp
    · intro a o e
      unfold upd at e
      split at e
      · rename_i q; subst q; cases e; exact ⟨_, .head _, rfl⟩
      · split at e
        · rename_i q; subst q; cases e; exact ⟨_, .tail _ (.head _), [], 0, rfl, trivial⟩
        · obtain ⟨ob, h1, h2⟩ := hp.hp a o e; exact ⟨ob, .tail _ (.tail _ h1), h2⟩
    · intro p hpp
      obtain ⟨h1, h2⟩ := hp.pv p hpp
      refine ⟨.tail _ (.tail _ h1), ?_⟩
      unfold upd
      rw [if_neg (Nat.ne_of_lt (l1' p h1)), if_neg (Nat.ne_of_lt (l1 p h1))]; exact h2
  have hbody' := hbody x dx hx1 hd1 (Nat.ne_of_gt l2)
  refine code_ok (R := fun v H' => v = .none ∧ R (.ref x) H') fn (fun vs s => hb x vs s) (hloc x) hdp hun hroom (hbody'.mono fun fl l H' r => ?_) (amb_under am) hp' (vs := .ref x :: vs) ⟨rfl, hvs⟩ (fun v av H' led' h'' tk r hv hp'' => ?_) (fun e k a h'' tk hx hat => ?_)
  · cases fl with
    | ret v => exact ⟨r.1, r.2⟩
    | next => exact ⟨rfl, r.2⟩
    | brk => exact ⟨rfl, r.2⟩
    | cont => exact ⟨rfl, r.2⟩
  · obtain ⟨rfl, r⟩ := r
    cases hv
    exact ⟨rfl, hQ _ _ _ _ _ _ r rfl hp''⟩
  · exact hE e k a h'' tk hx hat
end

section
variable {W : Wd} {fi : Fi} {dp un : Nat} {loc : Loc} {H : AH} {X : Xs} {R : AV → AH → Prop}

/-! methods of texts and lists, built-in calls -/
theorem m_find {x : Str} : MethOK W dp un H (.str x) "find" (.bi "str.find") := by
  intro fi A A₀ base h₀ outer L m led pv s pl va Q E am hp hv hQ
  obtain ⟨t, rfl⟩ := hv
  with_reducible refine GM.find ?_
  exact hQ
theorem m_lower {x : Str} : MethOK W dp un H (.str x) "lower" (.bi "str.lower") := by
  intro fi A A₀ base h₀ outer L m led pv s pl va Q E am hp hv hQ
  obtain ⟨t, rfl⟩ := hv
  with_reducible refine GM.lower ?_
  exact hQ
theorem m_lstrip {x : Str} : MethOK W dp un H (.str x) "lstrip" (.bi "str.lstrip") := by
  intro fi A A₀ base h₀ outer L m led pv s pl va Q E am hp hv hQ
  obtain ⟨t, rfl⟩ := hv
  with_reducible refine GM.lstrip ?_
  exact hQ
theorem m_join {x : Str} : MethOK W dp un H (.str x) "join" (.bi "str.join") := by
  intro fi A A₀ base h₀ outer L m led pv s pl va Q E am hp hv hQ
  obtain ⟨t, rfl⟩ := hv
  with_reducible refine GM.join ?_
  exact hQ
theorem m_split {x : Str} : MethOK W dp un H (.str x) "split" (.bi "str.split") := by
  intro fi A A₀ base h₀ outer L m led pv s pl va Q E am hp hv hQ
  obtain ⟨t, rfl⟩ := hv
  with_reducible refine GM.split ?_
  exact hQ
theorem m_append {a : Addr} {vs : List AV} (e : H a = some (.lst vs)) : MethOK W dp un H (.ref a) "append" (.bi "list.append") := by
  intro fi A A₀ base h₀ outer L m led pv s pl va Q E am hp hv hQ
  cases hv
  obtain ⟨ob, m1, ws, n, rfl, hv⟩ := hp.hp a _ e
  exact PySem.Calls.getMethod_list_append (hp.nw.get m1) rfl rfl hQ
theorem k_find {x y : Str} (r : R (.int (Txt.find x y)) H) : Call_OK W dp un H (.builtin "str.find") [.str x, .str y] R X := by
  intro vs hvs
  obtain ⟨_, _, rfl, ⟨t, rfl⟩, ⟨u, rfl⟩⟩ := vrs2 hvs
  constructor
  intro fi A A₀ base h₀ outer L m led pv s Q E am hp hQ hE
  with_reducible refine SC.find ?_
  exact hQ _ _ _ _ s.heap _ r ⟨_, rfl⟩ hp
theorem k_find3 {x y : Str} {i : Int} (r : R (.int (Txt.find3 x y i)) H) : Call_OK W dp un H (.builtin "str.find") [.str x, .str y, .int i] R X := by
  intro vs hvs
  obtain ⟨_, _, _, rfl, ⟨t, rfl⟩, ⟨u, rfl⟩, ⟨v, rfl⟩⟩ := vrs3 hvs
  constructor
  intro fi A A₀ base h₀ outer L m led pv s Q E am hp hQ hE
  with_reducible refine SC.find3 ?_
  exact hQ _ _ _ _ s.heap _ r ⟨_, rfl⟩ hp
theorem k_lower {x : Str} (hl : x.length ≤ 5592405) (r : R (.str (Txt.lower x)) H) : Call_OK W dp un H (.builtin "str.lower") [.str x] R X := by
  intro vs hvs
  obtain ⟨_, rfl, ⟨t, rfl⟩⟩ := vrs1 hvs
  constructor
  intro fi A A₀ base h₀ outer L m led pv s Q E am hp hQ hE
  with_reducible refine SCL.lower hl ?_
  exact fun _ => hQ _ _ _ _ s.heap _ r ⟨_, rfl⟩ hp
theorem k_lstrip {x y : Str} (hl : x.length ≤ sizeLine) (r : R (.str (Txt.lstripChars x y)) H) : Call_OK W dp un H (.builtin "str.lstrip") [.str x, .str y] R X := by
  intro vs hvs
  obtain ⟨_, _, rfl, ⟨t, rfl⟩, ⟨u, rfl⟩⟩ := vrs2 hvs
  constructor
  intro fi A A₀ base h₀ outer L m led pv s Q E am hp hQ hE
  with_reducible refine SCL.lstripChars ?_ hl
  exact fun _ _ _ => hQ _ _ _ _ s.heap _ r ⟨_, rfl⟩ hp
theorem k_join {x : Str} {a : Addr} {ys : List Str} (e : H a = some (.lst (avStrs ys))) (hx : x.length ≤ 64) (hl : (ys.map (·.length)).sum + ys.length * 64 ≤ 16777216) (r : R (.str (Txt.join x ys)) H) : Call_OK W dp un H (.builtin "str.join") [.str x, .ref a] R X := by
  intro vs hvs
  obtain ⟨_, _, rfl, ⟨t, rfl⟩, h2⟩ := vrs2 hvs
  cases h2
  constructor
  intro fi A A₀ base h₀ outer L m led pv s Q E am hp hQ hE
  obtain ⟨ws, ht, hv⟩ := hp.lst e
  with_reducible refine join_listC ht (strsAre_of hv) hx hl ?_
  exact fun _ _ => hQ _ _ _ _ s.heap _ r ⟨_, rfl⟩ hp
theorem k_append {a : Addr} {vs : List AV} {v : AV} (e : H a = some (.lst vs)) (hl : vs.length ≤ 1000000) (r : R .none (upd H a (.lst (vs ++ [v])))) : Call_OK W dp un H (.builtin "list.append") [.ref a, v] R X := by
  intro vs' hvs
  obtain ⟨_, w, rfl, h1, h2⟩ := vrs2 hvs
  cases h1
  constructor
  intro fi A A₀ base h₀ outer L m led pv s Q E am hp hQ hE
  obtain ⟨ob, m1, ws, n, rfl, hv⟩ := hp.hp a _ e
  have hsz : ws.toArray.size ≤ sizeLine := by rw [List.size_toArray, ← vrs_len hv]; exact Nat.le_trans hl (by decide)
  refine append_K (its := ws.toArray) (n := n) (x := w) hp.fr hp.nw (upd_of hp.ord m1) (fun h' F' N' => ?_) hsz
  have hv' : VRs (vs ++ [v]) (ws ++ [w]) := vrs_app hv ⟨h2, trivial⟩
  refine hQ _ _ _ _ h' _ r rfl (hp.update (by rw [e]; rfl) m1 ⟨ws ++ [w], n + 1, ?_, hv'⟩ F' N')
  rw [List.push_toArray]
theorem k_lenS {x : Str} (hl : x.length ≤ 1000000000) (r : R (.int x.length) H) : Call_OK W dp un H (.builtin "len") [.str x] R X := by
  intro vs hvs
  obtain ⟨_, rfl, ⟨t, rfl⟩⟩ := vrs1 hvs
  constructor
  intro fi A A₀ base h₀ outer L m led pv s Q E am hp hQ hE
  with_reducible refine len_str ?_ ?_
  · omega
  · exact hQ _ _ _ _ s.heap _ r ⟨_, rfl⟩ hp
theorem k_chr {i : Int} (h0 : 0 ≤ i) (h1 : i ≤ 1114111) (r : R (.str ⟨#[i.toNat]⟩) H) : Call_OK W dp un H (.builtin "chr") [.int i] R X := by
  intro vs hvs
  obtain ⟨_, rfl, ⟨t, rfl⟩⟩ := vrs1 hvs
  constructor
  intro fi A A₀ base h₀ outer L m led pv s Q E am hp hQ hE
  with_reducible refine chr_of_range h0 h1 ?_
  exact hQ _ _ _ _ s.heap _ r ⟨_, rfl⟩ hp
theorem k_ord {x : Str} (h0 : x.length = 1) (r : R (.int (x.cps.getD 0 0)) H) : Call_OK W dp un H (.builtin "ord") [.str x] R X := by
  intro vs hvs
  obtain ⟨_, rfl, ⟨t, rfl⟩⟩ := vrs1 hvs
  constructor
  intro fi A A₀ base h₀ outer L m led pv s Q E am hp hQ hE
  with_reducible refine ord_of_one h0 ?_
  exact hQ _ _ _ _ s.heap _ r ⟨_, rfl⟩ hp
theorem k_abs {a : Int} (r : R (.int (if a < 0 then -a else a)) H) : Call_OK W dp un H (.builtin "abs") [.int a] R X := by
  intro vs hvs
  obtain ⟨_, rfl, ⟨t, rfl⟩⟩ := vrs1 hvs
  constructor
  intro fi A A₀ base h₀ outer L m led pv s Q E am hp hQ hE
  with_reducible refine call_abs_int ?_
  exact fun _ _ => hQ _ _ _ _ s.heap _ r ⟨_, rfl⟩ hp
theorem k_int {a : Int} (r : R (.int a) H) : Call_OK W dp un H (.type "int") [.int a] R X := by
  intro vs hvs
  obtain ⟨_, rfl, ⟨t, rfl⟩⟩ := vrs1 hvs
  constructor
  intro fi A A₀ base h₀ outer L m led pv s Q E am hp hQ hE
  with_reducible refine PySem.call_int_int ?_
  exact hQ _ _ _ _ s.heap s.toks r ⟨_, rfl⟩ hp
theorem k_str {a : Int} (h1 : 0 ≤ a) (h2 : a < 4611686018427387904) (r : R (.str (Str.ofString (toString a))) H) : Call_OK W dp un H (.type "str") [.int a] R X := by
  intro vs hvs
  obtain ⟨_, rfl, ⟨t, rfl⟩⟩ := vrs1 hvs
  constructor
  intro fi A A₀ base h₀ outer L m led pv s Q E am hp hQ hE
  have h3 : (if a < 0 then 0 - a else a) < 4611686018427387904 := by rw [if_neg (by omega)]; exact h2
  with_reducible refine str_of_int_fit h3 (Int.le_refl _) ?_
  exact fun _ => hQ _ _ _ _ s.heap _ r ⟨_, rfl⟩ hp
theorem k_range {n : Int} (r : ∀ a, H a = none → R (.ref a) (upd H a (.rng n))) : Call_OK W dp un H (.type "range") [.int n] R X := by
  intro vs hvs
  obtain ⟨_, rfl, ⟨t, rfl⟩⟩ := vrs1 hvs
  constructor
  intro fi A A₀ base h₀ outer L m led pv s Q E am hp hQ hE
  have hl : ∀ p ∈ led, p.1 < s.heap.objs.size := fun p hpp => Heap.lt_size (hp.nw p hpp).1
  with_reducible refine call_range_1 ?_
  exact hQ _ _ _ _ _ _ (r _ (hp.fresh hl)) rfl (hp.new ⟨_, _, _, rfl⟩ (hp.fr.push _) (hp.nw.push hp.fr _) hl)
/-! subscripts -/
noncomputable def SubOK (W : Wd) (dp un : Nat) (H : AH) (value slice : Expr) (o i : AV) (R : AV → AH → Prop) (X : Xs) : Prop := ∀ vo vi, VR o vo → VR i vi → Stp W dp un H (subscriptTail value slice vo vi) R X
theorem e_sub {value slice : Expr} {pos : Pos} (h : WpE W fi dp un loc H value (fun o H1 => WpE W fi dp un loc H1 slice (fun i H2 => SubOK W dp un H2 value slice o i R X) X) X) : WpE W fi dp un loc H (.Subscript value slice pos) R X := by
  constructor
  intro A A₀ base h₀ outer L m led pv s Q E am lr hp hQ hE
  refine Subscript_ (h.run A A₀ base h₀ outer L m led pv s _ E am lr hp (fun v av H1 led1 h1 tk1 r1 v1 hp1 => ?_) hE)
  refine r1.run A A₀ base h₀ outer L m led1 pv _ _ E am lr hp1 (fun v' av' H2 led2 h2 tk2 r2 v2 hp2 => ?_) hE
  exact (r2 v v' v1 v2).run fi A A₀ base h₀ outer L m led2 pv _ _ E am hp2 hQ hE
noncomputable def notSlice : Expr → Bool
  | .Slice .. => false
  | _ => true
theorem sub_is {slice : Expr} (h : notSlice slice = true) (o i : Value) : subscripted slice false o i = operate [o, i] (getItem o i) := by
  cases slice <;> first | rfl | cases h
theorem letGo_str {value : Expr} {x : Str} {t : Tok} (r : Value) : letTemporaryGo value (.str x t) r = pure () := by
  cases value <;> first | rfl | (cases r <;> rfl)
theorem vrs_get {v : AV} : ∀ {vs : List AV} {ws : List Value} {j : Nat}, VRs vs ws → vs[j]? = some v → ∃ w, ws[j]? = some w ∧ VR v w
  | [], _, _, _, h => by cases h
  | _ :: _, [], _, h, _ => h.elim
  | x :: xs, w :: ws, 0, ⟨h1, _⟩, h => by cases h; exact ⟨w, rfl, h1⟩
  | x :: xs, w :: ws, j + 1, ⟨_, h1⟩, h => vrs_get (vs := xs) (ws := ws) (j := j) h1 h
theorem seqIdx {k : Int} {n : Nat} (h0 : 0 ≤ k) (h1 : k.toNat < n) : seqIndex? k n = some k.toNat := by
  unfold seqIndex?
  simp only [if_neg (show ¬ k < 0 by omega)]
  rw [if_pos (by simp; omega)]
theorem sub_lst {value slice : Expr} {a : Addr} {vs : List AV} {k : Int} {v : AV} (e : H a = some (.lst vs)) (h0 : 0 ≤ k) (h1 : k < 2 ^ 63) (hx : vs[k.toNat]? = some v) (r : R v H) (hs : notSlice slice = true) : SubOK W dp un H value slice (.ref a) (.int k) R X := by
  rintro _ _ h2 ⟨t, rfl⟩
  cases h2
  constructor
  intro fi A A₀ base h₀ outer L m led pv s Q E am hp hQ hE
  obtain ⟨ws, ht, hv⟩ := hp.lst e
  obtain ⟨w, hw, hvw⟩ := vrs_get hv hx
  refine tail_any ht.typeIs slot_list_getitem.lookup (wpAny_getItem_list ht h0 h1 (x := w) (by rw [List.getElem?_toArray]; exact hw) ?_) (sub_is hs _ _)
  exact hQ _ _ _ _ s.heap s.toks r hvw hp
/-- the sign at a place -/
noncomputable def chAt (x : Str) (i : Int) : Str := Txt.item x i
theorem sub_str {value slice : Expr} {x : Str} {k : Int} (h0 : 0 ≤ k) (h1 : k < x.length) (hl : x.length < 2 ^ 62) (r : R (.str (Txt.item x k)) H) (hs : notSlice slice = true) : SubOK W dp un H value slice (.str x) (.int k) R X := by
  rintro _ _ ⟨u, rfl⟩ ⟨t, rfl⟩
  constructor
  intro fi A A₀ base h₀ outer L m led pv s Q E am hp hQ hE
  have hf : fitsSsize k = true := fitsSsize_of (N := 9223372036854775808) (by omega) (by omega) (Int.le_refl _)
  with_reducible refine item_str hf ?_ h1 ?_ (sub_is hs _ _) (fun r => letGo_str r)
  · omega
  · exact fun _ => hQ _ _ _ _ s.heap _ r ⟨_, rfl⟩ hp
theorem e_slice_ss {value lo hi : Expr} {p pos : Pos} (h : WpE W fi dp un loc H value (fun o H1 => WpE W fi dp un loc H1 lo (fun l H2 => WpE W fi dp un loc H2 hi (fun u H3 => ∃ x i j, o = .str x ∧ l = .int i ∧ u = .int j ∧ x.length ≤ sizeLine ∧ R (.str (Txt.slice x (some i) (some j))) H3) X) X) X) :
    WpE W fi dp un loc H (.Subscript value (.Slice (some lo) (some hi) none p) pos) R X := by
  constructor
  intro A A₀ base h₀ outer L m led pv s Q E am lr hp hQ hE
  refine Subscript_ (h.run A A₀ base h₀ outer L m led pv s _ E am lr hp (fun v av H1 led1 h1 tk1 r1 v1 hp1 => ?_) hE)
  refine wpAny_Slice (evalPart_some_step (r1.run A A₀ base h₀ outer L m led1 pv _ _ E am lr hp1 (fun v2 av2 H2 led2 h2 tk2 r2 vr2 hp2 => ?_) hE))
  refine evalPart_some_step (r2.run A A₀ base h₀ outer L m led2 pv _ _ E am lr hp2 (fun v3 av3 H3 led3 h3 tk3 r3 vr3 hp3 => ?_) hE)
  refine evalPart_none_step ?_
  obtain ⟨x, i, j, rfl, rfl, rfl, hl, r⟩ := r3
  obtain ⟨t, rfl⟩ := v1
  obtain ⟨ti, rfl⟩ := vr2
  obtain ⟨tj, rfl⟩ := vr3
  refine slice_strN_ss (s := ⟨h3, s.gens, s.drawn, tk3, s.os⟩) hp3.fr hp3.nw (fun h' t' k F' N' => ?_) rfl (fun r => letGo_str r) hl
  exact hQ _ _ _ _ _ _ r ⟨_, rfl⟩ (hp3.at' F' N')
theorem ints_to : ∀ {ns : List Int} {vs : List Value}, VRs (ns.map .int) vs → IntsAre vs ns
  | [], [], _ => .nil
  | n :: ns, v :: vs, ⟨⟨t, h⟩, r⟩ => by rw [h]; exact .cons n t (ints_to r)
  | [], _ :: _, h => h.elim
  | _ :: _, [], h => h.elim
theorem ints_from {ns : List Int} {vs : List Value} (h : IntsAre vs ns) : VRs (ns.map .int) vs := by
  induction h with
  | nil => trivial
  | cons n t r ih => exact ⟨⟨t, rfl⟩, ih⟩
/-- the script's first items, as a list of the call's own -/
theorem e_script {value hi : Expr} {p pos : Pos} {n : Nat} (hlg : ∀ o r, letTemporaryGo value o r = pure ()) (h : WpE W fi dp un loc H value (fun o H1 => WpE W fi dp un loc H1 hi (fun u H3 => ∃ ns : List Int, o = .ref W.scr ∧ u = .int n ∧ VRs (ns.map .int) W.scrV ∧ W.scrV.length ≤ 1000 ∧ ∀ a, H3 a = none → R (.ref a) (upd H3 a (.lst ((ns.take n).map .int)))) X) X) :
    WpE W fi dp un loc H (.Subscript value (.Slice none (some hi) none p) pos) R X := by
  constructor
  intro A A₀ base h₀ outer L m led pv s Q E am lr hp hQ hE
  refine Subscript_ (h.run A A₀ base h₀ outer L m led pv s _ E am lr hp (fun v av H1 led1 h1 tk1 r1 v1 hp1 => ?_) hE)
  refine wpAny_Slice (evalPart_none_step ?_)
  refine evalPart_some_step (r1.run A A₀ base h₀ outer L m led1 pv _ _ E am lr hp1 (fun v3 av3 H3 led3 h3 tk3 r3 vr3 hp3 => ?_) hE)
  refine evalPart_none_step ?_
  obtain ⟨ns, rfl, rfl, hv, hlen, r⟩ := r3
  cases v1
  obtain ⟨tj, rfl⟩ := vr3
  have hl : h3.IsList W.scr W.scrV.toArray := by obtain ⟨o, ho, rr⟩ := am.scr; exact ⟨o, hp3.fr.keep _ _ ho, rr⟩
  refine slice_listK (s := ⟨h3, s.gens, s.drawn, tk3, s.os⟩) hl .none (.int _ _) ?_ rfl (fun r => hlg _ r) ?_
  · have hlt : ∀ q ∈ led3, q.1 < h3.objs.size := fun q hq => Heap.lt_size (hp3.nw q hq).1
    have F1 := hp3.fr.push { cls := Value.type "slice", data := Data.fields #[Value.none, .int n tj, Value.none] }
    have N1 := hp3.nw.push hp3.fr { cls := Value.type "slice", data := Data.fields #[Value.none, .int n tj, Value.none] }
    have hp4 : Hp W h₀ L m led3 pv H3 (h3.push { cls := Value.type "slice", data := Data.fields #[Value.none, .int n tj, Value.none] }) := hp3.at' F1 fun q hq => N1 q (.tail _ hq)
    have hlt4 : ∀ q ∈ led3, q.1 < (h3.push { cls := Value.type "slice", data := Data.fields #[Value.none, .int n tj, Value.none] }).objs.size := fun q hq => Heap.lt_size (hp4.nw q hq).1
    have hsz : (h3.push { cls := Value.type "slice", data := Data.fields #[Value.none, .int n tj, Value.none] }).objs.size = h3.objs.size + 1 := Heap.size_push ..
    have fr := hp4.fresh hlt4
    rw [hsz] at fr hlt4
    have N2 := hp4.nw.push hp4.fr { cls := Value.type "list", data := Data.seq (slicePick W.scrV.toArray none (some (n : Int)) none) }
    rw [hsz] at N2
    refine hQ _ _ _ _ _ _ (r _ fr) rfl (hp4.new ⟨(slicePick W.scrV.toArray none (some (n : Int)) none).toList, 0, by simp, ints_from ?_⟩ (hp4.fr.push _) N2 hlt4)
    have := kmk_upto (y := (n : Int)) (ints_to hv) (by omega)
    rw [Int.toNat_natCast] at this
    exact this
  · rw [List.size_toArray]; exact Nat.le_trans hlen (by decide)
end

/-! texts as lists of signs -/
noncomputable def mk (l : List Nat) : Str := ⟨l.toArray⟩
noncomputable def sg : List Nat → Str
  | [] => mk []
  | c :: _ => mk [c]
/-- what stands from a place on -/
noncomputable def tl (T : Str) (k : Nat) : List Nat := T.cps.toList.drop k
theorem mk_toList (l : List Nat) : (mk l).cps.toList = l := by simp [mk]
theorem mk_len (l : List Nat) : (mk l).length = l.length := by simp [mk, Str.length]
theorem mk_inj {a b : List Nat} (h : mk a = mk b) : a = b := by rw [← mk_toList a, ← mk_toList b, h]
theorem mk_cps (x : Str) : mk x.cps.toList = x := by simp [mk]
theorem mk_eq (a b : List Nat) : (mk a == mk b) = decide (a = b) := by
  by_cases h : a = b
  · subst h; simp
  · have : mk a ≠ mk b := fun q => h (mk_inj q)
    simp [h, this]
theorem mk_app (a b : List Nat) : mk a ++ mk b = mk (a ++ b) := by
  have : (mk a ++ mk b).cps.toList = a ++ b := by rw [Str.cps_append]; simp [mk]
  rw [← mk_cps (mk a ++ mk b), this]
theorem str_len (x : Str) : x.length = x.cps.toList.length := by simp [Str.length]

theorem strSliceIndices_clip (a b n : Nat) : Builtin.Str.strSliceIndices (some (a : Int)) (some (b : Int)) 1 n = Builtin.Str.strSliceIndices (some ((min a n : Nat) : Int)) (some ((min b n : Nat) : Int)) 1 n := by
  have h1 : ¬ ((a : Int) < 0) := by omega
  have h2 : ¬ ((b : Int) < 0) := by omega
  have h3 : ¬ (((min a n : Nat) : Int) < 0) := by omega
  have h4 : ¬ (((min b n : Nat) : Int) < 0) := by omega
  have e1 : max (0 : Int) (min (a : Int) (n : Int)) = max (0 : Int) (min ((min a n : Nat) : Int) (n : Int)) := by omega
  have e2 : max (0 : Int) (min (b : Int) (n : Int)) = max (0 : Int) (min ((min b n : Nat) : Int) (n : Int)) := by omega
  simp only [Builtin.Str.strSliceIndices, h1, h2, h3, h4, if_false, e1, e2, show ((1 : Int) > 0) = True from by simp, if_true]
theorem slice_list (x : Str) {a b : Nat} (hab : a ≤ b) : (Builtin.Str.strSliceIndices (some (a : Int)) (some (b : Int)) 1 x.length).filterMap (x.cps[·]?) = (x.cps.toList.drop a).take (b - a) := by
  rw [strSliceIndices_clip, StrLaws.sliced_plain x (by omega) (by omega)]
  have hl : x.length = x.cps.toList.length := str_len x
  by_cases ha : a ≤ x.length
  · rw [Nat.min_eq_left ha]
    by_cases hb : b ≤ x.length
    · rw [Nat.min_eq_left hb]
    · rw [Nat.min_eq_right (by omega), List.take_of_length_le (i := x.length - a) (by rw [List.length_drop]; omega), List.take_of_length_le (i := b - a) (by rw [List.length_drop]; omega)]
  · have e1 : List.drop (min a x.length) x.cps.toList = [] := List.drop_of_length_le (by omega)
    have e2 : List.drop a x.cps.toList = [] := List.drop_of_length_le (by omega)
    rw [e1, e2]; simp
theorem slice_nat (x : Str) {a b : Nat} (hab : a ≤ b) : Txt.slice x (some (a : Int)) (some (b : Int)) = mk ((tl x a).take (b - a)) := by
  unfold Txt.slice
  have hl : x.length = x.cps.toList.length := str_len x
  split
  · rename_i h
    have hn : (Builtin.Str.strSliceIndices (some (a : Int)) (some (b : Int)) 1 x.length).length = x.length := by simpa using h
    rw [strSliceIndices_clip, StrLaws.strSliceIndices_plain (by omega) (by omega), List.length_map, List.length_range] at hn
    by_cases h0 : x.length = 0
    · have : x.cps.toList = [] := List.eq_nil_of_length_eq_zero (by omega)
      conv => lhs; rw [← mk_cps x]
      unfold tl; rw [this]; simp
    · obtain rfl : a = 0 := by omega
      unfold tl
      rw [List.drop_zero, List.take_of_length_le (by omega), mk_cps]
  · rw [slice_list x hab]; rfl
theorem slice_one (x : Str) (a : Nat) : Txt.slice x (some (a : Int)) (some ((a : Int) + 1)) = sg (tl x a) := by
  have := slice_nat x (a := a) (b := a + 1) (by omega)
  rw [show ((a + 1 : Nat) : Int) = (a : Int) + 1 by omega] at this
  rw [this, show a + 1 - a = 1 by omega]
  cases tl x a <;> rfl
theorem tl_cons {T : Str} {k : Nat} {c : Nat} {r : List Nat} (h : tl T k = c :: r) : tl T (k + 1) = r := by
  unfold tl at h ⊢
  rw [← List.drop_drop, h]; rfl
theorem tl_add (T : Str) (k n : Nat) : tl T (k + n) = (tl T k).drop n := by
  unfold tl
  rw [List.drop_drop]
theorem tl_nil {T : Str} {k : Nat} (h : tl T k = []) (n : Nat) : tl T (k + n) = [] := by rw [tl_add, h]; simp
section
variable {W : Wd} {fi : Fi} {dp un : Nat} {loc : Loc} {H : AH} {X : Xs}

noncomputable def Sub (l l' : Loc) : Prop := ∀ y av, l y = some av → l' y = some av
theorem Sub.refl (l : Loc) : Sub l l := fun _ _ h => h
theorem LocR.sub {l l' : Loc} {m : Str → Option Value} (h : LocR l' m) (s : Sub l l') : LocR l m := fun y av e => h y av (s y av e)
theorem WpF.sub {l : Loc} {t : Env → Sem Flow} {R : AF → Loc → AH → Prop} (s : Sub l loc) (h : WpF W fi dp un l H t R X) : WpF W fi dp un loc H t R X :=
  .mk fun A A₀ base h₀ outer L m led pv s' Q E am lr hp hQ hE => h.run A A₀ base h₀ outer L m led pv s' Q E am (lr.sub s) hp hQ hE
theorem WpB.sub {l : Loc} {t : Env → Sem Bool} {R : Bool → AH → Prop} (s : Sub l loc) (h : WpB W fi dp un l H t R X) : WpB W fi dp un loc H t R X :=
  .mk fun A A₀ base h₀ outer L m led pv s' Q E am lr hp hQ hE => h.run A A₀ base h₀ outer L m led pv s' Q E am (lr.sub s) hp hQ hE
theorem WpV.sub {l : Loc} {t : Env → Sem Value} {R : AV → AH → Prop} (s : Sub l loc) (h : WpV W fi dp un l H t R X) : WpV W fi dp un loc H t R X :=
  .mk fun A A₀ base h₀ outer L m led pv s' Q E am lr hp hQ hE => h.run A A₀ base h₀ outer L m led pv s' Q E am (lr.sub s) hp hQ hE
noncomputable def Ext (H H' : AH) : Prop := ∀ a o, H a = some o → H' a = some o
theorem Ext.refl (H : AH) : Ext H H := fun _ _ h => h
theorem Ext.trans {H H' H'' : AH} (h : Ext H H') (h' : Ext H' H'') : Ext H H'' := fun a o e => h' a o (h a o e)
theorem Ext.new {H H' : AH} {a : Addr} {o : AO} (h : Ext H H') (hn : H' a = none) : Ext H (upd H' a o) := fun b o' e => by
  have e' := h b o' e
  unfold upd
  rw [if_neg (fun q => by rw [q, hn] at e'; cases e')]; exact e'
theorem Ext.upd {H H' : AH} {a : Addr} {o : AO} (h : Ext H H') : Ext (upd H a o) (upd H' a o) := fun b o' e => by
  unfold Mine.upd at e ⊢
  split at e <;> rename_i c
  · rw [if_pos c]; exact e
  · rw [if_neg c]; exact h b o' e
theorem Hp.ext {h₀ h : Heap} {L : Addr} {m : Str → Option Value} {led pv : List (Addr × Obj)} {H' : AH} (hp : Hp W h₀ L m led pv H h) (s : Ext H' H) : Hp W h₀ L m led pv H' h :=
  hp.drop s fun a e => by
    cases q : H' a with
    | none => rfl
    | some o => rw [s a o q] at e; cases e
theorem WpF.ext {H' : AH} {t : Env → Sem Flow} {R : AF → Loc → AH → Prop} (s : Ext H' H) (h : WpF W fi dp un loc H' t R X) : WpF W fi dp un loc H t R X :=
  .mk fun A A₀ base h₀ outer L m led pv s' Q E am lr hp hQ hE => h.run A A₀ base h₀ outer L m led pv s' Q E am lr (hp.ext s) hQ hE
theorem WpB.ext {H' : AH} {t : Env → Sem Bool} {R : Bool → AH → Prop} (s : Ext H' H) (h : WpB W fi dp un loc H' t R X) : WpB W fi dp un loc H t R X :=
  .mk fun A A₀ base h₀ outer L m led pv s' Q E am lr hp hQ hE => h.run A A₀ base h₀ outer L m led pv s' Q E am lr (hp.ext s) hQ hE
theorem WpV.ext {H' : AH} {t : Env → Sem Value} {R : AV → AH → Prop} (s : Ext H' H) (h : WpV W fi dp un loc H' t R X) : WpV W fi dp un loc H t R X :=
  .mk fun A A₀ base h₀ outer L m led pv s' Q E am lr hp hQ hE => h.run A A₀ base h₀ outer L m led pv s' Q E am lr (hp.ext s) hQ hE
noncomputable def SubL : List (Str × AV) → Loc → Prop
  | [], _ => True
  | p :: r, l => l p.1 = some p.2 ∧ SubL r l
theorem SubL.mem {b : List (Str × AV)} {l : Loc} (h : SubL b l) (p : Str × AV) (hp : p ∈ b) : l p.1 = some p.2 := by
  induction b with
  | nil => cases hp
  | cons q r ih =>
    rcases List.mem_cons.mp hp with rfl | m
    · exact h.1
    · exact ih h.2 m
theorem lookup_mem {y : Str} {av : AV} : ∀ {b : List (Str × AV)}, b.lookup y = some av → (y, av) ∈ b
  | (k, v) :: r, h => by
    rw [List.lookup_cons] at h
    cases q : y == k with
    | true => rw [q] at h; cases h; rw [str_beq, decide_eq_true_eq] at q; subst q; exact .head _
    | false => rw [q] at h; exact .tail _ (lookup_mem h)
theorem sub_of {b : List (Str × AV)} {l : Loc} (h : SubL b l) : Sub (locOf b) l := fun y av e => h.mem _ (List.mem_reverse.mp (lookup_mem e))

theorem Hp.pushI {h₀ h : Heap} {L : Addr} {m : Str → Option Value} {led pv : List (Addr × Obj)} (hp : Hp W h₀ L m led pv H h) (oI : Obj) (hf : oI.isFreed = false) :
    Hp W h₀ L m ((h.objs.size, oI) :: led) ((h.objs.size, oI) :: pv) H (h.push oI) := by
  have hlt : ∀ p ∈ led, p.1 < h.objs.size := fun p hpp => Heap.lt_size (hp.nw p hpp).1
  refine ⟨hp.fr.push _, hp.nw.push hp.fr _ hf, ?_, fun a o e => ?_, fun p hm => ?_⟩
  · rw [List.map_cons]
    refine List.Pairwise.cons (fun b hb => ?_) hp.ord
    obtain ⟨p, h1, rfl⟩ := List.mem_map.mp hb
    exact hlt p h1
  · obtain ⟨ob, h1, h2⟩ := hp.hp a o e
    exact ⟨ob, .tail _ h1, h2⟩
  · rcases List.mem_cons.mp hm with rfl | hm
    · exact ⟨.head _, hp.fresh hlt⟩
    · exact ⟨.tail _ (hp.pv p hm).1, (hp.pv p hm).2⟩
theorem Hp.pvNe {h₀ h : Heap} {L : Addr} {m : Str → Option Value} {led pv : List (Addr × Obj)} (hp : Hp W h₀ L m led pv H h) : ∀ p ∈ pv, p.1 ≠ h.objs.size := fun p hm => Nat.ne_of_lt (Heap.lt_size (hp.nw p (hp.pv p hm).1).1)
theorem ss_while {σ : Type} {test : Expr} {body rest : List Stmt} {pos : Pos} {R : AF → Loc → AH → Prop} (I : σ → Prop) (le : σ → List (Str × AV)) (he : σ → AH) (ms : σ → Nat) (s0 : σ) (h0 : I s0) (hl0 : SubL (le s0) loc) (hH0 : Ext (he s0) H)
    (turn : ∀ st, I st → WpT W fi dp un (locOf (le st)) (he st) test (fun b H2 =>
      (b = true → WpSS W fi dp un (locOf (le st)) H2 body (fun f loc2 H3 => match f with
        | .next | .cont => ∃ st', I st' ∧ ms st' < ms st ∧ SubL (le st') loc2 ∧ Ext (he st') H3
        | .brk => WpSS W fi dp un loc2 H3 rest R X
        | .ret v => R (.ret v) loc2 H3) X) ∧
      (b = false → WpSS W fi dp un (locOf (le st)) H2 rest R X)) X) :
    WpSS W fi dp un loc H (.While test body [] pos :: rest) R X := by
  refine ss_cons (s_while (fun n loc1 H1 => ∃ st, I st ∧ ms st = n ∧ SubL (le st) loc1 ∧ Ext (he st) H1) (ms s0) ⟨s0, h0, rfl, hl0, hH0⟩ ?_)
  rintro n loc1 H1 ⟨st, hI, rfl, hs, hx⟩
  refine WpB.ext hx <| WpB.sub (sub_of hs) ((turn st hI).mono fun b H2 r => ⟨fun hb => WpF.sub (sub_of hs) ((r.1 hb).mono fun f loc2 H3 r2 => ?_), fun hb => ?_⟩)
  · cases f with
    | next => obtain ⟨st', a, b, c, d⟩ := r2; exact ⟨_, b, st', a, rfl, c, d⟩
    | cont => obtain ⟨st', a, b, c, d⟩ := r2; exact ⟨_, b, st', a, rfl, c, d⟩
    | brk => exact r2
    | ret v => exact r2
  · exact WpF.sub (sub_of hs) (r.2 hb)

/-- for over a value whose iterator walks the items -/
theorem ss_forG {σ : Type} {x : Str} {xp : Pos} {iter : Expr} {body rest : List Stmt} {pos : Pos} {R : AF → Loc → AH → Prop} (hl : locIn fi.scope x = true) (hs : ∀ env v, foldedSetIterable iter env v = pure v)
    (h : WpE W fi dp un loc H iter (fun v H1 => ∃ (items : List AV) (H2 : AH) (I : Nat → σ → Prop) (le : σ → List (Str × AV)) (he : σ → AH) (s0 : σ),
      ((∃ xs : Str, v = .str xs ∧ items = xs.cps.toList.map (fun c => .str (mk [c])) ∧ H2 = H1) ∨ (∃ a n, v = .ref a ∧ H1 a = some (.rng n) ∧ 0 ≤ n ∧ n ≤ 1000000 ∧ items = (List.range n.toNat).map (fun i => .int (i : Nat)) ∧ H2 = H1) ∨
        (∃ a, v = .ref a ∧ H1 a = some (.lst items) ∧ H2 = fun b => if b = a then none else H1 b)) ∧
      I 0 s0 ∧ SubL (le s0) loc ∧ Ext (he s0) H2 ∧
      (∀ k st av, I k st → items[k]? = some av → WpSS W fi dp un (setL (locOf (le st)) x av) (he st) body (fun f loc2 H3 => match f with
        | .next | .cont => ∃ st', I (k + 1) st' ∧ SubL (le st') loc2 ∧ Ext (he st') H3
        | .brk => WpSS W fi dp un loc2 H3 rest R X
        | .ret v => R (.ret v) loc2 H3) X) ∧
      (∀ st, I items.length st → WpSS W fi dp un (locOf (le st)) (he st) rest R X)) X) :
    WpSS W fi dp un loc H (.For (.Name x xp) iter body [] pos :: rest) R X := by
  refine ss_cons ?_
  constructor
  intro A A₀ base h₀ outer L m led pv s Q E am lr hp hQ hE
  refine wpAny_For (h.run A A₀ base h₀ outer L m led pv s _ E am lr hp (fun v av H1 led1 h1 tk1 r1 v1 hp1 => ?_) (hE m)) (hs _)
  obtain ⟨items, H2, I, le, he, s0, hkind, hI0, hl0, hH0, turn, fin⟩ := r1
  have setsub : ∀ {b : List (Str × AV)} {l : Loc} {av : AV}, SubL b l → Sub (setL (locOf b) x av) (setL l x av) := fun {b l av} hb y w e => by
    unfold setL at e ⊢
    by_cases q : y = x
    · rw [if_pos q] at e ⊢; exact e
    · rw [if_neg q] at e ⊢; exact sub_of hb y w e
  have core : ∀ {It : Addr} {oI : Obj} {fp : List Addr} {P : Nat → Value → Prop} {St : Nat → Heap → Prop} {pvs : List (Addr × Obj)} {s2 : Shared} {led2 : List (Addr × Obj)} {h2 : Heap}, s2 = { s with heap := h2, toks := tk1 } →
      Walks PG W.w A It fp [It] items.length P St → (∀ b ∈ fp, b = It ∨ ∃ o, (b, o) ∈ pvs) → (∀ i v, P i v → ∃ av, items[i]? = some av ∧ VR av v) → (∀ i h, St i h → ∃ o, h.get? It = some o) → (∀ p ∈ pvs ++ pv, p.1 ≠ It) →
      Hp W h₀ L m led2 ((It, oI) :: (pvs ++ pv)) H2 h2 → St 0 h2 →
      codeAny (MD W) A (.forLoop (.Name x xp) (.ref It) body [] (fi.env L)) (fun r s' => match r with | .ok f => Q f s' | .error e => cameBackBy (MD W) A (fi.env L) E e s') s2 := by
    intro It oI fp P St pvs s2 led2 h2 e2 Wk hfp hP hSt hpvI hp2 st0
    subst e2
    refine loop_core (H := H2) (loc := loc) (R := Then W fi dp un rest R X) (fun k loc1 H1 => ∃ st, I k st ∧ SubL (le st) loc1 ∧ Ext (he st) H1) am Wk hfp hP hSt hl hpvI lr hp2 st0 ⟨s0, hI0, hl0, hH0⟩ ?_ ?_ hQ hE
    · rintro k loc1 H1 av ⟨st, hI, hsub, hx⟩ hav
      refine WpF.ext hx <| WpF.sub (setsub hsub) ((turn k st av hI hav).mono fun f loc2 H3 r2 => ?_)
      cases f with
      | next => exact r2
      | cont => exact r2
      | brk => exact r2
      | ret v => exact r2
    · rintro loc1 H1 ⟨st, hI, hsub, hx⟩
      exact WpF.ext hx <| WpF.sub (sub_of hsub) (fin st hI)
  rcases hkind with ⟨xs, rfl, hit, rfl⟩ | ⟨a, n, rfl, hra, hn0, hn1, hit, rfl⟩ | ⟨a, rfl, hla, rfl⟩
  · obtain ⟨t, rfl⟩ := v1
    have hlen : items.length = xs.cps.size := by rw [hit]; simp
    have hPs : ∀ i v, SignAt xs i v → ∃ av, items[i]? = some av ∧ VR av v := fun i v ⟨c, u, hc, hv⟩ => by
      refine ⟨.str (mk [c]), ?_, u, hv⟩
      rw [hit, List.getElem?_map, Array.getElem?_toList, hc]; rfl
    cases ha : xs.cps.all (· < 128)
    · refine wpAny_pyIter_wide ha ?_
      exact core (pvs := []) rfl (hlen ▸ Walks.strWide am.handled _ xs t) (fun b hb => .inl (by simpa using hb)) hPs (fun i h st => let ⟨o, ho, _⟩ := st; ⟨o, ho⟩) hp1.pvNe (hp1.pushI _ rfl) ⟨_, Heap.get?_push_size _ rfl, rfl, rfl⟩
    · refine wpAny_pyIter_ascii ha ?_
      exact core (pvs := []) rfl (hlen ▸ Walks.strAscii am.handled _ xs t) (fun b hb => .inl (by simpa using hb)) hPs (fun i h st => let ⟨o, ho, _⟩ := st; ⟨o, ho⟩) hp1.pvNe (hp1.pushI _ rfl) ⟨_, Heap.get?_push_size _ rfl, rfl, rfl⟩
  · cases v1
    obtain ⟨ob, m1, t1, t2, t3, rfl⟩ := hp1.hp a _ hra
    have hlen : items.length = n.toNat := by rw [hit]; simp
    have hsz : Builtin.Range.rangeSize 0 n 1 = ((n.toNat : Nat) : Int) := by rw [rangeSize_nat]; congr 1; omega
    have hsm : Builtin.Range.small 0 n 1 = true := small_one (by omega) (by omega) (by omega) (by omega)
    refine wpAny_pyIter_range (hp1.nw.get m1) hsm ?_
    refine core (pvs := []) rfl (hlen ▸ (Walks.range am.handled h1.objs.size 0 1 n.toNat).bound) (fun b hb => .inl (by simpa using hb)) ?_ ?_ hp1.pvNe (hp1.pushI _ rfl) ?_
    · rintro i v ⟨hi, t, rfl⟩
      refine ⟨.int (i : Nat), ?_, t, ?_⟩
      · rw [hit, List.getElem?_map, List.getElem?_range (hlen ▸ hi)]; rfl
      · congr 1; omega
    · exact fun i h st => ⟨_, st⟩
    · rw [hsz, hlen]; simpa [IsRangeIter] using Heap.get?_push_size h1 (o := { cls := .type "range_iterator", data := .fields #[rawInt 0, rawInt ((n.toNat : Nat) : Int), rawInt 1] }) rfl
  · cases v1
    obtain ⟨ob, m1, ws, c, rfl, hv⟩ := hp1.hp a _ hla
    have hlen : items.length = ws.toArray.size := by rw [List.size_toArray]; exact vrs_len hv
    have hp1' : Hp W h₀ L m led1 (((a, ({ cls := .type "list", data := .seq ws.toArray c } : Obj))) :: pv) (fun b => if b = a then none else H1 b) h1 := by
      refine ⟨hp1.fr, hp1.nw, hp1.ord, fun b o e => ?_, fun p hm => ?_⟩
      · by_cases q : b = a
        · rw [if_pos q] at e; cases e
        · rw [if_neg q] at e; exact hp1.hp b o e
      · rcases List.mem_cons.mp hm with rfl | hm
        · exact ⟨m1, if_pos rfl⟩
        · refine ⟨(hp1.pv p hm).1, ?_⟩
          by_cases q : p.1 = a
          · exact if_pos q
          · rw [if_neg q]; exact (hp1.pv p hm).2
    have hlist : h1.IsList a ws.toArray := ⟨_, hp1.nw.get m1, rfl, c, rfl⟩
    have hane : a ≠ h1.objs.size := Nat.ne_of_lt (Heap.lt_size (hp1.nw.get m1))
    refine wpAny_pyIter_list hlist ?_
    refine core (pvs := [(a, { cls := .type "list", data := .seq ws.toArray c })]) rfl (hlen ▸ Walks.list am.handled h1.objs.size a hane ws.toArray) (fun b hb => ?_) (fun i v hi => ?_) (fun i h st => let ⟨⟨o, ho, _⟩, _⟩ := st; ⟨o, ho⟩) hp1'.pvNe (hp1'.pushI _ rfl) ⟨⟨_, Heap.get?_push_size _ rfl, rfl, rfl⟩, ?_⟩
    · rcases List.mem_cons.mp hb with rfl | hb
      · exact .inl rfl
      · rcases List.mem_cons.mp hb with rfl | hb
        · exact .inr ⟨_, .head _⟩
        · cases hb
    · have : ∀ {vs : List AV} {ws : List Value} {i : Nat} {w : Value}, VRs vs ws → ws[i]? = some w → ∃ av, vs[i]? = some av ∧ VR av w := by
        intro vs ws
        induction vs generalizing ws with
        | nil => intro i w h1 h2; cases ws with
          | nil => cases h2
          | cons _ _ => exact h1.elim
        | cons x xs ih => intro i w h1 h2; cases ws with
          | nil => exact h1.elim
          | cons y ys => cases i with
            | zero => cases h2; exact ⟨x, rfl, h1.1⟩
            | succ i => exact ih h1.2 h2
      exact this hv (by rw [List.getElem?_toArray] at hi; exact hi)
    · obtain ⟨o, ho, r⟩ := hlist
      exact ⟨o, Heap.get?_push_of_some _ ho, r⟩
end
section
variable {W : Wd} {fi : Fi} {dp un : Nat} {loc : Loc} {H : AH} {X : Xs}

noncomputable def nmOf : Expr → Option (Str × Pos)
  | .Name x p => some (x, p)
  | _ => none
theorem nmOf_eq {e : Expr} {q : Str × Pos} (h : nmOf e = some q) : e = .Name q.1 q.2 := by
  cases e <;> first | (injection h with h; subst h; rfl) | exact nomatch h
noncomputable def namesOf : List Expr → Option (List Str)
  | [] => some []
  | e :: r => (nmOf e).bind fun q => (namesOf r).bind fun l => some (q.1 :: l)
noncomputable def setLs : Loc → List Str → List AV → Loc
  | loc, x :: xs, v :: vs => setLs (setL loc x v) xs vs
  | loc, _, _ => loc

theorem store_each {A A₀ : Around} {base h₀ : Heap} {outer : List Env} {L : Addr} {led pv : List (Addr × Obj)} {E : Value → Shared → Prop} (am : Amb W fi dp un A A₀ base h₀ outer L) :
    ∀ {nps : List (Str × Pos)} {avs : List AV} {vs : List Value} {loc : Loc} {m : Str → Option Value} {s : Shared} {Q : Unit → Shared → Prop}, (nps.map (·.1)).all (locIn fi.scope) = true → VRs avs vs → LocR loc m → Hp W h₀ L m led pv H s.heap →
    (∀ m' h' tk, LocR (setLs loc (nps.map (·.1)) avs) m' → Hp W h₀ L m' led pv H h' → Q () { s with heap := h', toks := tk }) →
    wpAny (MD W) A (assignInOrder (nps.map fun p v => assign (.Name p.1 p.2) (fi.env L) v) vs) Q E s := by
  intro nps
  induction nps with
  | nil =>
    intro avs vs loc m s Q hl hv lr hp hQ
    have : setLs loc [] avs = loc := by cases avs <;> rfl
    exact wpAny_pure (hQ m s.heap s.toks (this ▸ lr) hp)
  | cons p r ih =>
    intro avs vs loc m s Q hl hv lr hp hQ
    cases avs with
    | nil =>
      cases vs with
      | nil => exact wpAny_pure (hQ m s.heap s.toks lr hp)
      | cons _ _ => exact hv.elim
    | cons av avs =>
      cases vs with
      | nil => exact hv.elim
      | cons v vs =>
        rw [List.map_cons, List.all_cons, Bool.and_eq_true] at hl
        show wpAny (MD W) A (do holding vs (assign (.Name p.1 p.2) (fi.env L) v); assignInOrder (r.map fun p v => assign (.Name p.1 p.2) (fi.env L) v) vs) Q E s
        refine wpAny_bind (wpAny_holding (assign_Name (store_av hl.1 am lr hp hv.1 fun m' h' tk lr' hp' => ?_)))
        exact ih hl.2 hv.2 lr' hp' hQ
theorem assignEach_len {env : Env} {elts : List Expr} : ∀ {names : List Str}, namesOf elts = some names → (assignEach elts env).length = names.length ∧ (assignEach elts env).findIdx? (·.1) = none ∧ ∃ nps : List (Str × Pos), names = nps.map (·.1) ∧ (assignEach elts env).map (·.2) = nps.map fun p v => assign (.Name p.1 p.2) env v := by
  induction elts with
  | nil => intro names h; cases h; exact ⟨rfl, rfl, [], rfl, rfl⟩
  | cons e r ih =>
    intro names h
    obtain ⟨q, hq, h⟩ := Option.bind_eq_some_iff.mp h
    obtain ⟨l, hr, h⟩ := Option.bind_eq_some_iff.mp h
    cases h
    cases nmOf_eq hq
    obtain ⟨i1, i2, nps, i3, i4⟩ := ih hr
    have e : assignEach (.Name q.1 q.2 :: r) env = (false, fun v => assign (.Name q.1 q.2) env v) :: assignEach r env := rfl
    rw [e]
    exact ⟨by rw [List.length_cons, i1]; rfl, by rw [List.findIdx?_cons, i2]; rfl, q :: nps, by rw [i3]; rfl, by rw [List.map_cons, i4]; rfl⟩

theorem s_unpack {elts : List Expr} {names : List Str} {k : Nat} {tp pos : Pos} {value : Expr} {R : AF → Loc → AH → Prop}
    (h : WpE W fi dp un loc H value (fun v H1 => ∃ a vs, v = .ref a ∧ H1 a = some (.tup vs) ∧ vs.length = names.length ∧ R .next (setLs loc names vs) H1) X)
    (hn : namesOf elts = some names) (hl : names.all (locIn fi.scope) = true)
    (hs : ∀ env, swapsWithSole [.Tuple elts k tp] value pos.line env = pure false) (hw : ∀ L, swappedStores [.Tuple elts k tp] value (fi.env L) = pure none) :
    WpS W fi dp un loc H (.Assign [.Tuple elts k tp] value pos) R X := by
  constructor
  intro A A₀ base h₀ outer L m led pv s Q E am lr hp hQ hE
  refine Assign_Tuple (h.run A A₀ base h₀ outer L m led pv s _ E am lr hp (fun v av H1 led1 h1 tk1 r1 v1 hp1 => ?_) (hE m)) (hs _) (hw _)
  obtain ⟨a, vs, rfl, ht, hlen, r⟩ := r1
  cases v1
  obtain ⟨ws, hws, hv⟩ := hp1.tup ht
  have hwl := vrs_len hv
  obtain ⟨hel, hel2, nps, rfl, hel4⟩ := assignEach_len (env := fi.env L) hn
  refine unpackN_ hp1.fr hp1.nw hws am.handled (by rw [hel, List.size_toArray, ← hwl, hlen]) hel2 fun h' F' N' => ?_
  rw [hel4]
  exact store_each am hl hv lr (hp1.at' F' N') fun m' h'' tk lr' hp' => hQ _ _ _ _ _ _ _ _ r rfl lr' hp'

theorem store_rev {A A₀ : Around} {base h₀ : Heap} {outer : List Env} {L : Addr} {led pv : List (Addr × Obj)} {E : Value → Shared → Prop} (am : Amb W fi dp un A A₀ base h₀ outer L) :
    ∀ {names : List Str} {avs : List AV} {vs : List Value} {loc : Loc} {m : Str → Option Value} {s : Shared} {Q : Unit → Shared → Prop}, names.all (locIn fi.scope) = true → VRs avs vs → LocR loc m → Hp W h₀ L m led pv H s.heap →
    (∀ m' h' tk, LocR (setLs loc names avs) m' → Hp W h₀ L m' led pv H h' → Q () { s with heap := h', toks := tk }) →
    wpAny (MD W) A (assignInOrder (names.map fun n => bindName (fi.env L) n) vs) Q E s
  | [], avs, vs, loc, m, s, Q, hl, hv, lr, hp, hQ => by
    have : setLs loc [] avs = loc := by cases avs <;> rfl
    exact wpAny_pure (hQ m s.heap s.toks (this ▸ lr) hp)
  | x :: r, [], vs, loc, m, s, Q, hl, hv, lr, hp, hQ => by
    cases vs with
    | nil => exact wpAny_pure (hQ m s.heap s.toks lr hp)
    | cons _ _ => exact hv.elim
  | x :: r, av :: avs, vs, loc, m, s, Q, hl, hv, lr, hp, hQ => by
    cases vs with
    | nil => exact hv.elim
    | cons v vs =>
      rw [List.all_cons, Bool.and_eq_true] at hl
      show wpAny (MD W) A (do holding vs (bindName (fi.env L) x v); assignInOrder (r.map fun n => bindName (fi.env L) n) vs) Q E s
      refine wpAny_bind (wpAny_holding (bindName_ (store_av hl.1 am lr hp hv.1 fun m' h' tk lr' hp' => ?_)))
      exact store_rev am hl.2 hv.2 lr' hp' hQ
theorem vrs_rev : ∀ {as : List AV} {vs : List Value}, VRs as vs → VRs as.reverse vs.reverse
  | [], [], _ => trivial
  | a :: as, v :: vs, ⟨h1, h2⟩ => by
    rw [List.reverse_cons, List.reverse_cons]
    exact vrs_app (vrs_rev h2) ⟨h1, trivial⟩
theorem s_swap {elts : List Expr} {names : List Str} {k : Nat} {tp pos : Pos} {value : Expr} {R : AF → Loc → AH → Prop}
    (h : WpE W fi dp un loc H value (fun v H1 => ∃ a vs, v = .ref a ∧ H1 a = some (.tup vs) ∧ vs.length = names.length ∧ R .next (setLs loc names.reverse vs.reverse) H1) X)
    (hn : namesOf elts = some names)
    (hl : names.reverse.all (locIn fi.scope) = true)
    (hs : ∀ env, swapsWithSole [.Tuple elts k tp] value pos.line env = pure false) (hw : ∀ L, swappedStores [.Tuple elts k tp] value (fi.env L) = pure (some names)) :
    WpS W fi dp un loc H (.Assign [.Tuple elts k tp] value pos) R X := by
  constructor
  intro A A₀ base h₀ outer L m led pv s Q E am lr hp hQ hE
  refine Assign_Tuple_swapped (h.run A A₀ base h₀ outer L m led pv s _ E am lr hp (fun v av H1 led1 h1 tk1 r1 v1 hp1 => ?_) (hE m)) (hs _) (hw _)
  obtain ⟨a, vs, rfl, ht, hlen, r⟩ := r1
  cases v1
  obtain ⟨ws, hws, hv⟩ := hp1.tup ht
  have hwl := vrs_len hv
  refine unpackItemsN_ hp1.fr hp1.nw hws am.handled (by rw [List.size_toArray, ← hwl, hlen]) fun h' F' N' => ?_
  exact store_rev am hl (vrs_rev hv) lr (hp1.at' F' N') fun m' h'' tk lr' hp' => hQ _ _ _ _ _ _ _ _ r rfl lr' hp'

noncomputable def asStrs : List AV → Option (List Str)
  | [] => some []
  | .str x :: r => match asStrs r with | some l => some (x :: l) | none => none
  | _ :: _ => none
theorem asStrs_eq {as : List AV} : ∀ {ys : List Str}, asStrs as = some ys → as = avStrs ys := by
  induction as with
  | nil => intro ys h; cases h; rfl
  | cons a r ih =>
    intro ys h
    cases a with
    | str x =>
      unfold asStrs at h
      cases hr : asStrs r with
      | none => rw [hr] at h; cases h
      | some l => rw [hr] at h; cases h; rw [ih hr]; rfl
    | _ => cases h
theorem c_inN {x : Str} {a : Addr} {as : List AV} {ys : List Str} {R : AV → AH → Prop} (hy : asStrs as = some ys) (r : R (.bool (ys.any (· == x))) (upd H a (.tup as))) : CmpOK W dp un (upd H a (.tup as)) .In (.str x) (.ref a) R X :=
  c_inT (by rw [asStrs_eq hy]; exact if_pos rfl) r
theorem c_notinN {x : Str} {a : Addr} {as : List AV} {ys : List Str} {R : AV → AH → Prop} (hy : asStrs as = some ys) (r : R (.bool (!(ys.any (· == x)))) (upd H a (.tup as))) : CmpOK W dp un (upd H a (.tup as)) .NotIn (.str x) (.ref a) R X :=
  c_notinT (by rw [asStrs_eq hy]; exact if_pos rfl) r

theorem div_small {a b : Int} (h0 : 0 ≤ b) (h1 : b < 2 ^ 62) : Builtin.divisionGoesByPylong a b = false := by
  unfold Builtin.divisionGoesByPylong
  have : b.natAbs.log2 < 62 := by
    by_cases h : b.natAbs = 0
    · rw [h]; decide
    · rw [Nat.log2_lt h]; omega
  have h2 : (if (b == 0) = true then 0 else b.natAbs.log2 / 30 + 1) ≤ 3 := by split <;> omega
  simp only [Bool.and_eq_false_iff, decide_eq_false_iff_not]
  left
  omega

theorem WpB.toExt {H1 : AH} {b2 : Bool} {t : Env → Sem Bool} {R : Bool → AH → Prop} (h : WpB W fi dp un loc H t (fun c H2 => c = b2 ∧ Ext H1 H2) X) (r : R b2 H1) : WpB W fi dp un loc H t R X :=
  .mk fun A A₀ base h₀ outer L m led pv s Q E am lr hp hQ hE => h.run A A₀ base h₀ outer L m led pv s Q E am lr hp (fun v H' led' h' tk r' hp' => hQ v H1 led' h' tk (r'.1 ▸ r) (hp'.ext r'.2)) hE
theorem t_andX {x y : Expr} {rest : List Expr} {pos : Pos} {R : Bool → AH → Prop}
    (h : WpT W fi dp un loc H x (fun b₁ H1 => ∃ b₂, (b₁ = true → WpT W fi dp un loc H1 (.BoolOp .And (y :: rest) pos) (fun c H2 => c = b₂ ∧ Ext H1 H2) X) ∧ R (b₁ && b₂) H1) X) : WpT W fi dp un loc H (.BoolOp .And (x :: y :: rest) pos) R X := by
  refine t_and (h.mono fun b₁ H1 h => ?_)
  obtain ⟨b₂, h2, r⟩ := h
  exact ⟨fun hb => (h2 hb).toExt (by subst hb; exact r), fun hb => by subst hb; exact r⟩
theorem t_orX {x y : Expr} {rest : List Expr} {pos : Pos} {R : Bool → AH → Prop}
    (h : WpT W fi dp un loc H x (fun b₁ H1 => ∃ b₂, (b₁ = false → WpT W fi dp un loc H1 (.BoolOp .Or (y :: rest) pos) (fun c H2 => c = b₂ ∧ Ext H1 H2) X) ∧ R (b₁ || b₂) H1) X) : WpT W fi dp un loc H (.BoolOp .Or (x :: y :: rest) pos) R X := by
  refine t_or (h.mono fun b₁ H1 h => ?_)
  obtain ⟨b₂, h2, r⟩ := h
  exact ⟨fun hb => (h2 hb).toExt (by subst hb; exact r), fun hb => by subst hb; exact r⟩
/-- an if whose ways meet again -/
theorem ss_ifK {σ : Type} {t : Expr} {b o rest : List Stmt} {pos : Pos} {R : AF → Loc → AH → Prop} (I : σ → Prop) (le : σ → List (Str × AV)) (he : σ → AH)
    (h : WpT W fi dp un loc H t (fun c H1 =>
      (c = true → WpSS W fi dp un loc H1 b (fun f loc2 H2 => match f with | .next => ∃ st, I st ∧ SubL (le st) loc2 ∧ Ext (he st) H2 | f => R f loc2 H2) X) ∧
      (c = false → WpSS W fi dp un loc H1 o (fun f loc2 H2 => match f with | .next => ∃ st, I st ∧ SubL (le st) loc2 ∧ Ext (he st) H2 | f => R f loc2 H2) X)) X)
    (k : ∀ st, I st → WpSS W fi dp un (locOf (le st)) (he st) rest R X) : WpSS W fi dp un loc H (.If t b o pos :: rest) R X := by
  have key : ∀ f loc2 H2, (match f with | AF.next => ∃ st, I st ∧ SubL (le st) loc2 ∧ Ext (he st) H2 | f => R f loc2 H2) → Then W fi dp un rest R X f loc2 H2 := by
    intro f loc2 H2 hf
    cases f with
    | next => obtain ⟨st, hI, hs, hx⟩ := hf; exact WpF.ext hx (WpF.sub (sub_of hs) (k st hI))
    | brk => exact hf
    | cont => exact hf
    | ret v => exact hf
  exact ss_cons (s_if (h.mono fun c H1 r => ⟨fun hc => (r.1 hc).mono key, fun hc => (r.2 hc).mono key⟩))

theorem Stp.mono {t : Sem Value} {R R' : AV → AH → Prop} (hr : ∀ v H', R v H' → R' v H') (h : Stp W dp un H t R X) : Stp W dp un H t R' X :=
  .mk fun fi A A₀ base h₀ outer L m led pv s Q E am hp hQ hE => h.run fi A A₀ base h₀ outer L m led pv s Q E am hp (fun v av H' led' h' tk r => hQ v av H' led' h' tk (hr _ _ r)) hE
/-- a while whose ways out meet again -/
theorem ss_whileK {σ : Type} {test : Expr} {body rest : List Stmt} {pos : Pos} {R : AF → Loc → AH → Prop} (I J : σ → Prop) (le : σ → List (Str × AV)) (he : σ → AH) (ms : σ → Nat) (s0 : σ) (h0 : I s0) (hl0 : SubL (le s0) loc) (hH0 : Ext (he s0) H)
    (turn : ∀ st, I st → WpT W fi dp un (locOf (le st)) (he st) test (fun b H2 =>
      (b = true → WpSS W fi dp un (locOf (le st)) H2 body (fun f loc2 H3 => match f with
        | .next | .cont => ∃ st', I st' ∧ ms st' < ms st ∧ SubL (le st') loc2 ∧ Ext (he st') H3
        | .brk => ∃ st', J st' ∧ SubL (le st') loc2 ∧ Ext (he st') H3
        | .ret v => R (.ret v) loc2 H3) X) ∧
      (b = false → ∃ st', J st' ∧ SubL (le st') (locOf (le st)) ∧ Ext (he st') H2)) X)
    (k : ∀ st, J st → WpSS W fi dp un (locOf (le st)) (he st) rest R X) :
    WpSS W fi dp un loc H (.While test body [] pos :: rest) R X := by
  refine ss_while I le he ms s0 h0 hl0 hH0 fun st hI => (turn st hI).mono fun b H2 r => ⟨fun hb => (r.1 hb).mono fun f loc2 H3 r2 => ?_, fun hb => ?_⟩
  · cases f with
    | next => exact r2
    | cont => exact r2
    | brk => obtain ⟨st', hJ, hs, hx⟩ := r2; exact WpF.ext hx (WpF.sub (sub_of hs) (k st' hJ))
    | ret v => exact r2
  · obtain ⟨st', hJ, hs, hx⟩ := r.2 hb
    exact WpF.ext hx (WpF.sub (sub_of hs) (k st' hJ))

end
/-- how a side goal of a rule is closed -/
def sideT (c : Char) : Lean.MacroM (Lean.TSyntax `tactic) :=
  if c = 'r' then `(tactic| exact rfl)
  else if c = 'i' then `(tactic| (intros; exact rfl))
  else if c = 'q' then `(tactic| (intros; kernel_rfl))
  else if c = 'k' then `(tactic| (intro w; k_is))
  else if c = 'b' then `(tactic| boot_by_name)
  else if c = 'y' then `(tactic| first | assumption | exact div_small (by omega) (by omega))
  else if c = 'z' then `(tactic| first | exact IntMulOk.of_right (by decide) | exact IntMulOk.of_left (by decide))
  else `(tactic| first | decide | assumption | omega)
/-- the arguments of a rule: 'm' stays open -/
def holesT (l : List Char) : Lean.MacroM (List Lean.Term) := l.zipIdx.mapM fun p =>
  if p.1 = 'm' then `(?_) else do
    let i := Lean.mkIdent (Lean.Name.mkNum `h p.2)
    `(?$i)
def closeT (s o : List Char) (t : Lean.TSyntax `tactic) : Lean.MacroM (Lean.TSyntax `tactic) := o.foldlM (init := t) fun t d => do
  let n := d.toNat - 48
  let c := s.getD n 'm'
  if c = 'm' then return t else
  let i := Lean.mkIdent (Lean.Name.mkNum `h n)
  let u ← sideT c
  `(tactic| (($t:tactic); (case $i:ident => $u:tactic)))
/-- one rule: its name, its arguments, the order in which they are closed; a third word: behind ss_cons -/
def ruleT : List String → Lean.MacroM (Lean.TSyntax `tactic)
  | n :: s :: o :: l => do
    let hs ← holesT s.toList
    let a := hs.toArray
    let t ← `(tactic| with_reducible refine' $(Lean.mkIdent (Lean.Name.mkStr `Mine n)) $a*)
    let t ← closeT s.toList (if o = "" then "01234".toList else o.toList) t
    if l.isEmpty then return t else `(tactic| ((with_reducible refine' Mine.ss_cons ?_); ($t:tactic)))
  | _ => `(tactic| fail)
def altT (l : List String) : Lean.MacroM (Lean.TSyntax `tactic) := do
  let z ← `(tactic| fail)
  l.foldrM (init := z) fun a u => do
    let t ← ruleT (a.splitOn ":")
    `(tactic| first | $t:tactic | $u:tactic)
def tabT (s : String) : Lean.MacroM (Lean.TSyntax `tactic) := altT (s.splitOn " ")
theorem jAnd {a : AV} {b₁ b₂ : Bool} {c : Bool} {P : Bool → Prop} {Q : Bool → Bool → Prop} (e : a = .bool b₁) (h : b₁ = c → P b₂) (r : Q b₁ b₂) : ∃ b₁ b₂, a = .bool b₁ ∧ (b₁ = c → P b₂) ∧ Q b₁ b₂ := ⟨b₁, b₂, e, h, r⟩
theorem jTst {b₁ b₂ : Bool} {c : Bool} {P : Bool → Prop} {Q : Bool → Prop} (h : b₁ = c → P b₂) (r : Q b₂) : ∃ b₂, (b₁ = c → P b₂) ∧ Q b₂ := ⟨b₂, h, r⟩
theorem fillxAll : PySem.Challenge.rw_no0507_01.foot = 10 ∧ hd.heap_39 = hd.heap_39 := by
  k_fill
  exact ⟨rfl, rfl⟩
local macro_rules | `(tactic| walk_at "v1") => do return (← tabT "e_name:rmr: e_str:m: e_globInt:kmr:20 e_int:m: e_cmp:mr: t_cmp:mr: e_bin:m: as_nil:m: as_cons:mr: c_eqS:m: c_neS:m: c_leS:m: c_eqI:m: c_ltI:m: c_leI:m: c_gtI:m: c_geI:m: b_add:m: b_sub:m: b_mul:zm: b_mod:xm: e_call:kkrrm: e_callB:kbxrrm: e_callT:kbxrrm: e_meth:mri: e_attr:mi: e_bool:m: e_none:m: e_un:m: u_neg:m: e_bop1:m: e_ifexp:m: t_and1:m: t_or1:m: t_andJ:m: t_orJ:m: e_andJ:m: e_orJ:m: e_slice_ss:m: e_tuple:m: e_list:m: b_div:xym: c_inN:rm: c_notinN:rm: c_inS:m: c_notinS:m: e_sub:m: i_add:m: k_int:m: k_abs:m: t_val:mr:")
local macro_rules | `(tactic| walk_at "v") => `(tactic| repeat' (walk_at "v1"))
local macro_rules | `(tactic| walk_at "s") => do
  let u ← tabT "ss_nil:m: s_ret:m::s s_if:m::s s_assign:mri::s s_put:mi::s s_break:m::s s_ret0:m::s s_expr:mii::s s_aug:rmr::s s_subput:mi::s s_subaug:mi::s s_raise:mxrr::s s_unpack:mrrii::s s_swap:mrriq:1423:s"
  return (← `(tactic| ((try refine' (?_ : WpSS _ _ _ _ _ _ _ _ _)); ($u:tactic))))

structure ExcIs (K : Frag) (C : Addr) (bm : List Value) (newId : String) : Prop where
  ok : ∃ nm q N bs hdct sn sub ab col dd k0 k1 k2 k3 k5, List.lookup C K = some (excClassObj nm q C N bs bm hdct sn sub ab col dd k0 k1 k2 k3 k5 newId)
abbrev bmE : List Value := [.type "Exception", .type "BaseException", .type "object"]
theorem cl51 (w : World) : ExcIs (hd.heap_39 w.params) 51 (.ref 31 :: bmE) "Exception.__new__" :=
  ⟨_, _, _, _, _, _, _, _, _, _, _, _, _, _, _, by k_is⟩
theorem cl31 (w : World) : ∃ cd N es n dd sl sl2 c2, List.lookup 31 (hd.heap_39 w.params) = some ⟨.type "type", N, .cls cd, sl⟩ ∧ List.lookup cd.ns (hd.heap_39 w.params) = some ⟨c2, dd, .dict es n, sl2⟩ ∧ es.all (fun e => match e.key with | .str _ _ => true | _ => false) = true ∧ nsIn (hd.heap_39 w.params) cd.ns "__init__" = some none := ⟨_, _, _, _, _, _, _, _, by k_is, by k_is, by simp, by k_is⟩
theorem tail51 {w : World} {h : Heap} (X : (hd.heap_39 w.params).In h) : OwnTail h bmE (.ref 31 :: bmE) := by
  obtain ⟨cd, N, es, n, dd, sl, sl2, c2, h1, h2, h3, h4⟩ := cl31 w
  have hok : nsOkIn (hd.heap_39 w.params) cd.ns = true := by
    unfold nsOkIn; rw [h2]; exact h3
  exact .own (X _ _ h1) (.of_isNs (isNs_of_in X hok)) (nsMap_none_of_in X hok h4) .base
theorem init51 (w : World) : findIn (hd.heap_39 w.params) (.ref 51) "__init__" = some (some (.ref 48)) := by k_is
theorem typ48 (w : World) : typeIn (hd.heap_39 w.params) (.ref 48) = some (.type "function") := by k_is
theorem sa51 (w : World) : findIn (hd.heap_39 w.params) (.ref 51) "__setattr__" = some (some (.builtin "object.__setattr__")) := by k_is
theorem ga51 (w : World) : findIn (hd.heap_39 w.params) (.ref 51) "__getattribute__" = some (some (.builtin "BaseException.__getattribute__")) := by k_is
theorem hd51 (w : World) : hasDictIn (hd.heap_39 w.params) 51 = true := by k_is
structure ExcName (name : Str) : Prop where
  t : ∀ w : World, takerIn (hd.heap_39 w.params) 51 name = some none
  f : ∀ w : World, findIn (hd.heap_39 w.params) (.ref 51) name = some none
theorem en_kind : ExcName "kind" := ⟨fun w => by k_is, fun w => by k_is⟩
theorem en_at : ExcName "at" := ⟨fun w => by k_is, fun w => by k_is⟩
theorem cls51 (w : World) : ∃ cd, clsIn (hd.heap_39 w.params) 51 = some cd ∧ cd.mro = .ref 51 :: .ref 31 :: bmE ∧ cd.hasDict = true := ⟨_, by k_is, rfl, rfl⟩
theorem refuse51 (self : Value) : refuseLoop self "__setattr__" (.ref 51 :: .ref 31 :: bmE) = pure () := by
  rw [refuseLoop_ref, refuseLoop_ref]
  kernel_rfl

section
variable {w : World} {A : Around} {E : Value → Shared → Prop} {h : Heap} {g : Array GenState} {d : Drawn} {t : Nat} {os : OsState}
abbrev excTup (rest : List Value) : Obj := { cls := .type "tuple", data := .seq rest.toArray }
abbrev excObj (t : Addr) : Obj := { cls := .ref 51, data := .fields #[.ref t, .none, .none, .none, .bool false, .none] }
abbrev excHeap (h : Heap) (rest : List Value) : Heap := (h.push (excTup rest)).push (excObj h.objs.size)

theorem rd_type_call {rest : List Value} {Q : Fin → Shared → Prop} (X : (hd.heap_39 w.params).In h) (hrest : rest.length ≤ sizeLine)
    (hq : wpAny (model PG w) A (call (.ref 48) (.ref (h.objs.size + 1) :: rest)) (fun r s' => r = .none ∧ Q (.done (.ret (.ref (h.objs.size + 1)))) s') E ⟨excHeap h rest, g, d, t, os⟩) :
    wpAny (model PG w) A (Builtin.«type.__call__» ⟨.ref 51 :: rest, []⟩) Q E ⟨h, g, d, t, os⟩ := by
  have F := PySem.F.excBase_Exception
  have T := tail51 X
  obtain ⟨nm, q, N, bs, hdct, sn, sub, ab, col, dd, k0, k1, k2, k3, k5, hC0⟩ := (cl51 w).ok
  have hC := X _ _ hC0
  repeat (first | with_reducible refine wpAny_loadPart_at hC ?_ | with_reducible refine wpAny_madeBy_exc hC ?_ | wp_step)
  refine codeAny_call_builtin_code (Code.quiet_builtin _ F.quiet) (wpAny_check_new_subT F T hC ?_)
  refine codeAny_exc_new_subT F T hC ?_ hrest
  show wpAny _ _ _ _ _ _
  have k : ∀ b o, h.get? b = some o → (excHeap h rest).get? b = some o := fun b o e => Heap.get?_push_of_some _ (Heap.get?_push_of_some _ e)
  have hC₁ := k _ _ hC
  have X₁ := X.keeps k
  have hget : (excHeap h rest).get? (h.objs.size + 1) = some (excObj h.objs.size) := by heap_get
  have hcC : (Value.ref 51 :: .ref 31 :: bmE).contains (.ref 51) = true := by simp
  unfold isInstance
  repeat (first | with_reducible refine wpAny_loadPart_at hget ?_ | (with_reducible refine wpAny_isSubtype_exc hC₁ ?_; rw [hcC]) | wp_step)
  show wpAny _ _ (typeLookup (.ref 51) _) _ _ _
  refine (looks_findIn X₁ (init51 w)).here ?_
  refine wpAny_holding (wpAny_bind ?_)
  refine (bind_fn X₁ _ (typ48 w)).here ?_
  refine wpAny_bind (wpAny_mono hq (fun r s' hr => ?_) fun _ _ x => x)
  obtain ⟨rfl, hQ⟩ := hr
  wp_walk
  exact hQ

theorem rd_call {rest : List Value} {Q : Value → Shared → Prop} (X : (hd.heap_39 w.params).In h) (hrest : rest.length ≤ sizeLine)
    (hq : wpAny (model PG w) (A.under (.builtin "type.__call__" ⟨.ref 51 :: rest, []⟩)) (call (.ref 48) (.ref (h.objs.size + 1) :: rest)) (fun r s' => r = .none ∧ Q (.ref (h.objs.size + 1)) s') E ⟨excHeap h rest, g, d, t, os⟩) :
    wpAny (model PG w) A (call (.ref 51) rest) Q E ⟨h, g, d, t, os⟩ := by
  obtain ⟨nm, q, N, bs, hdct, sn, sub, ab, col, dd, k0, k1, k2, k3, k5, hC0⟩ := (cl51 w).ok
  have hC := X _ _ hC0
  have f1 := tc_lookup
  have f2 := tc_bind (.ref 51)
  have hT : (⟨h, g, d, t, os⟩ : Shared).TypeIs (.ref 51) "type" := ⟨_, hC, rfl⟩
  refine wpAny_call (codeAny_of_tree ?_)
  show wpAny _ _ (callAny (.ref 51) _) _ _ _
  repeat (any_goals (first | assumption | with_reducible refine wpAny_loadPart_at hC ?_ | wp_step))
  refine ⟨rfl, ?_⟩
  exact codeAny_call_builtin_at (Code.quiet_builtin _ (by decide +kernel)) entry_typeCall (wpAny_check_type_call_sub hC (rd_type_call X hrest hq))
end

section
variable {W : Wd} {fi : Fi} {dp un : Nat} {loc : Loc} {H : AH} {X : Xs} {h₀ h : Heap} {L : Addr} {m : Str → Option Value} {led pv : List (Addr × Obj)}
theorem Hp.upd {a : Addr} {ob ob' : Obj} {f : Obj → Obj} (hp : Hp W h₀ L m led pv H h) (hm : (a, ob) ∈ led) (e : f ob = ob') (hf : ob'.isFreed = false) :
    Fr h₀ L (h.update a f) m ∧ News h₀ L (h.update a f) (rep led a ob') := by
  obtain ⟨pre, post, e1, e2, h1, h2⟩ := (upd_of (o' := ob') hp.ord hm).split
  rw [e2]
  exact news_upd hp.fr (e1 ▸ hp.nw) h1 h2 e hf

theorem osa51 {w : World} {A : Around} {R : Result → Shared → Prop} {s : Shared} {x : Addr} {ox : Obj} {od : Option Obj} {name : Str} {tk : Tok} {v : Value} (Y : (hd.heap_39 w.params).In s.heap) (I : InstAt s.heap x ox 51 od) (hn : ExcName name)
    (h : ∀ b, wpAny (model PG w) A.in1 (Builtin.ObjectAttr.storeInOwnDict (.ref x) (.ref 51) (.str name tk) name v b)
      (fun fin s' => match fin with | .done f => R (.ok f) s' | .again c' => c'.quiet = true ∧ codeAny (model PG w) A c' R s') (fun e s' => R (.error e) s') s) :
    codeAny (model PG w) A (.call (.builtin "object.__setattr__") ⟨[.ref x, .str name tk, v], []⟩) R s := by
  have SF := PySem.F.store_object
  obtain ⟨cd, hc, hm, hhd⟩ := cls51 w
  have sub : Looks (model PG w) s.heap (isInstance (.ref x) (.type "object")) true := I.type.andThen (looks_mroIn Y (by unfold mroIn; rw [hc, Option.bind_some, hm]; rfl))
  refine codeAny_call_builtin SF.slot.plain SF.entry (@check_slot (model PG w) _ _ s "object.__setattr__" "object" "__setattr__" (.ref x) [.str name tk, v] [] _ SF.kind SF.split sub (SF.args (.ref x) (.str name tk) v) ?_)
  obtain ⟨attr, ha, hr⟩ := Option.bind_eq_some_iff.mp (hn.t w)
  have ha' := hn.f w
  rw [ha] at ha'; cases ha'
  have hM : Looks (model PG w) s.heap (mroOf (.ref 51)) cd.mro := (looks_clsIn Y hc).andThen .now
  have L3 : Looks (model PG w) s.heap (Builtin.ObjectAttr.storeTaker? none) none := .now
  rw [osa_eq, refuse_eq]
  refine wpAny_bind (wpAny_bind (I.type.here (wpAny_bind (hM.here ?_))))
  rw [hm, refuse51]
  refine wpAny_pure (wpAny_bind (I.type.here (wpAny_bind ((looks_findIn Y ha).here (wpAny_bind (L3.here ?_))))))
  exact h _

theorem put_exc0 {e : Addr} {name : Str} {v : AV} {R : AH → Prop} (h1 : H e = some (.exc none true)) (hs : ExcName name)
    (r : ∀ d, H d = none → d ≠ e → R (upd (upd H d (.dict [(name, v)])) e (.exc (some d) true))) : PutOK W dp un H (.ref e) name v R := by
  intro fi A A₀ base h₀ outer L m led pv s vo vv Q E am hp ho hv hQ
  cases ho
  obtain ⟨ob, m1, vs, sl, rfl, hsz, hv1⟩ := hp.hp e _ h1
  have Y := am.Kin hp
  have hx := (hp.nw _ m1).1
  have I : InstAt s.heap e { cls := .ref 51, dict := none, data := .fields vs, slots := sl } 51 none := ⟨hx, rfl, rfl, trivial⟩
  refine set_plain Y I (sa51 W.w) (osa51 (s := { s with toks := s.toks + 1 }) Y I hs fun b => ?_)
  obtain ⟨cd, hc, hm, hhd⟩ := cls51 W.w
  refine wpAny_bind (wpAny_pure (wpAny_bind (wpAny_bind (wpAny_loadPart hx (wpAny_bind (looks_clsIn Y hc _ _ _ _ (fun _ _ e => e) ?_))))))
  rw [hhd]
  refine wpAny_bind (wpAny_alloc ?_)
  have hx1 := Heap.get?_push_of_some { cls := .type "dict", data := .dict #[] } hx
  refine wpAny_bind (wpAny_update hx1 ?_)
  refine wpAny_pure ?_
  unfold Builtin.ObjectAttr.storeInDict nsSet
  obtain ⟨hh, g, dr, tk, os⟩ := s
  dsimp only at hp hx hx1 hQ ⊢
  have hp1 : Hp W h₀ L m ((hh.objs.size, dictOf [] 0) :: led) pv (Mine.upd H hh.objs.size (.dict [])) (hh.push (dictOf [] 0)) :=
    hp.new ⟨[], 0, rfl, trivial⟩ (hp.fr.push _) (hp.nw.push hp.fr _) (fun p hpp => Heap.lt_size (hp.nw p hpp).1)
  have hde : e ≠ hh.objs.size := Nat.ne_of_lt (Heap.lt_size hx)
  have hd0 : H hh.objs.size = none := hp.fresh (fun p hpp => Heap.lt_size (hp.nw p hpp).1)
  have m1' : (e, ({ cls := .ref 51, dict := none, data := .fields vs, slots := sl } : Obj)) ∈ (hh.objs.size, dictOf [] 0) :: led := .tail _ m1
  obtain ⟨F2, N2⟩ := hp1.upd (f := fun o => { o with dict := some hh.objs.size }) (ob' := { cls := .ref 51, dict := some hh.objs.size, data := .fields vs, slots := sl }) m1' rfl rfl
  have hp2 := hp1.update (o := .exc (some hh.objs.size) true) (by unfold Mine.upd; rw [if_neg hde, h1]; rfl) m1' ⟨vs, sl, rfl, hsz, hv1⟩ F2 N2
  have m2 : (hh.objs.size, dictOf [] 0) ∈ rep ((hh.objs.size, dictOf [] 0) :: led) e { cls := .ref 51, dict := some hh.objs.size, data := .fields vs, slots := sl } := rep_other (.head _) (Ne.symm hde)
  have D := (hp2.nw _ m2).1
  refine wpAny_bind (wpAny_pure (wpAny_bind (wpAny_bind (wpAny_bind (wpAny_askSetting (wpAny_pure (wpAny_bind (wpAny_mkText (wpAny_bind (wpAny_loadPart D ?_))))))))))
  dsimp only
  have c : aRefKeyMayBeTheName name #[] = false := by rfl
  rw [c]
  refine wpAny_updatePart D ?_
  have e3 := putName_dict name (PyData.keyHash W.w.params name) (.str name (tk + 1)) vv [] 0
  obtain ⟨F3, N3⟩ := hp2.upd m2 e3 rfl
  have hput := FR.put (x := name) (t := tk + 1) (P := W.w.params) hv (fs := []) (es := []) trivial
  have hp3 := hp2.update (o := .dict [(name, v)]) (by unfold Mine.upd; rw [if_neg (Ne.symm hde), if_pos rfl]; rfl) m2 ⟨_, _, rfl, hput⟩ F3 N3
  refine wpAny_bind (wpAny_lookBehind (hp3.nw _ (rep_self m2)).1 (pastItsLine_dict (by show 1 ≤ _; rw [sizeLine_eq]; omega)) ?_)
  have eH : Mine.upd (Mine.upd (Mine.upd H hh.objs.size (.dict [])) e (.exc (some hh.objs.size) true)) hh.objs.size (.dict [(name, v)]) = Mine.upd (Mine.upd H hh.objs.size (.dict [(name, v)])) e (.exc (some hh.objs.size) true) := by
    funext b
    unfold Mine.upd
    by_cases q : b = hh.objs.size
    · subst q; rw [if_pos rfl, if_neg (Ne.symm hde), if_pos rfl]
    · rw [if_neg q]
      by_cases q2 : b = e
      · rw [if_pos q2, if_pos q2]
      · rw [if_neg q2, if_neg q2, if_neg q, if_neg q]
  rw [eH] at hp3
  exact wpAny_pure (hQ _ _ _ _ (r hh.objs.size hd0 (Ne.symm hde)) hp3)

theorem put_exc {e d : Addr} {fs : List (Str × AV)} {b : Bool} {name : Str} {v : AV} {R : AH → Prop} (h1 : H e = some (.exc (some d) b)) (h2 : H d = some (.dict fs)) (hs : ExcName name) (hl : fs.length < 1000)
    (r : R (Mine.upd H d (.dict (putF name v fs)))) : PutOK W dp un H (.ref e) name v R := by
  intro fi A A₀ base h₀ outer L m led pv s vo vv Q E am hp ho hv hQ
  cases ho
  obtain ⟨ob, m1, vs, sl, rfl, hsz, hv1⟩ := hp.hp e _ h1
  obtain ⟨ob2, m2, es, n, rfl, hfr⟩ := hp.hp d _ h2
  have Y := am.Kin hp
  have hx := (hp.nw _ m1).1
  have D := (hp.nw _ m2).1
  have I : InstAt s.heap e { cls := .ref 51, dict := some d, data := .fields vs, slots := sl } 51 (some (dictOf es n)) := ⟨hx, rfl, rfl, D⟩
  refine set_plain Y I (sa51 W.w) (osa51 (s := { s with toks := s.toks + 1 }) Y I hs fun b => ?_)
  obtain ⟨cd, hc, hm, hhd⟩ := cls51 W.w
  refine wpAny_bind (wpAny_pure (wpAny_bind (wpAny_bind (wpAny_loadPart hx (wpAny_bind (looks_clsIn Y hc _ _ _ _ (fun _ _ e => e) ?_))))))
  rw [hhd]
  refine wpAny_pure (a := some d) ?_
  unfold Builtin.ObjectAttr.storeInDict nsSet
  obtain ⟨hh, g, dr, tk, os⟩ := s
  dsimp only at hp hx D hQ ⊢
  refine wpAny_bind (wpAny_pure (wpAny_bind (wpAny_bind (wpAny_bind (wpAny_askSetting (wpAny_pure (wpAny_bind (wpAny_mkText (wpAny_bind (wpAny_loadPart D ?_))))))))))
  dsimp only
  have c : aRefKeyMayBeTheName name es.toArray = false := by
    rw [aRefKeyMayBeTheName_at, ← Array.any_toList, ← Array.any_toList, hfr.norefs, Bool.and_false]
  rw [c]
  refine wpAny_updatePart D ?_
  have e3 := putName_dict name (PyData.keyHash W.w.params name) (.str name (tk + 1)) vv es n
  obtain ⟨F3, N3⟩ := hp.upd m2 e3 rfl
  have hput := hfr.put (x := name) (t := tk + 1) hv
  have hp3 := hp.update (o := .dict (putF name v fs)) (by rw [h2]; rfl) m2 ⟨_, _, rfl, hput⟩ F3 N3
  refine wpAny_bind (wpAny_lookBehind (hp3.nw _ (rep_self m2)).1 (pastItsLine_dict (by rw [List.size_toArray, hput.len, sizeLine_eq]; have := putF_len name v fs; omega)) ?_)
  exact wpAny_pure (hQ _ _ _ _ r hp3)
end

section
variable {W : Wd} {fi : Fi} {dp un : Nat} {loc : Loc} {H : AH} {X : Xs} {h₀ h : Heap} {L : Addr} {m : Str → Option Value} {led pv : List (Addr × Obj)}
theorem excAt_new {A A₀ : Around} {base : Heap} {outer : List Env} {e d : Addr} {k : Str} {a : Int} (am : Amb W fi dp un A A₀ base h₀ outer L) (hp : Hp W h₀ L m led pv H h) (h1 : H e = some (.exc (some d) true)) (h2 : H d = some (.dict [("kind", .str k), ("at", .int a)])) :
    ExcAt W.w.params h₀ L m pv base (fi.env L) outer e k a h := by
  obtain ⟨ob, m1, vs, sl, rfl, hsz, hv1⟩ := hp.hp e _ h1
  obtain ⟨ob2, m2, es, n, rfl, hfr⟩ := hp.hp d _ h2
  have ne : d ≠ e := fun q => by rw [q, h1] at h2; cases h2
  have hin : ∀ env ∈ (fi.env L :: outer), ∀ b, env.frame = some b → b ∈ e :: (fi.env L :: outer).filterMap (·.frame) := fun env he b hb => .tail _ (List.mem_filterMap.mpr ⟨env, he, hb⟩)
  have bn : ∀ {b}, h₀.get? b = none → base.get? b = none := fun hb => fresh_of_stays am.below.stays hb
  have Ln : base.get? L = none := by
    cases hq : base.get? L with
    | none => rfl
    | some o => exact absurd (Nat.lt_of_lt_of_le (Heap.lt_size (am.below.stays L o hq)) hp.fr.above) (Nat.lt_irrefl _)
  have FF : h.FunFrames base (fi.env L :: outer) := .cons (L := L) (by show fi.scope.kind ≠ .module; rw [am.kind]; decide) rfl hp.fr.ns Ln (am.below.frames.of_keeps fun b o e _ => ⟨o, hp.fr.keep b o e, rfl⟩)
  have out : ∀ {b}, b ≠ e → h₀.get? b = none → b ≠ L → b ∉ e :: (fi.env L :: outer).filterMap (·.frame) := fun {b} hbe hb0 hbL hm => by
    rcases List.mem_cons.mp hm with q | hm
    · exact hbe q
    · obtain ⟨env, he, hf⟩ := List.mem_filterMap.mp hm
      rcases List.mem_cons.mp he with rfl | he
      · exact hbL (Option.some.inj hf).symm
      · obtain ⟨o, ho, _⟩ := (am.below.frames.mem (List.mem_filterMap.mpr ⟨env, he, hf⟩)).2
        rw [hb0] at ho; cases ho
  have Ne := hp.nw _ m1
  have Nd := hp.nw _ m2
  refine ⟨h, hideAll h (e :: (fi.env L :: outer).filterMap (·.frame)), d, none, hp.fr, .refl _, ⟨?_, fun b o q => of_hideAll _ q, hideAll_none _ (.head _), funFrames_hide FF hin, bn Nd.2.2, ⟨es, n, hideAll_get _ Nd.1 (out ne Nd.2.2 Nd.2.1), hfr⟩,
    ⟨_, vs, Ne.1, rfl, rfl, rfl, hsz, hv1 rfl⟩⟩, fun p hpp => ?_, .inl rfl⟩
  · intro b o q
    refine hideAll_get _ (hp.fr.keep b o (am.below.stays b o q)) fun hm => ?_
    rcases List.mem_cons.mp hm with rfl | hm
    · rw [bn Ne.2.2] at q; cases q
    · rw [(FF.mem hm).1] at q; cases q
  · obtain ⟨p1, p2⟩ := hp.pv p hpp
    have Np := hp.nw _ p1
    have pe : p.1 ≠ e := fun q => by rw [q, h1] at p2; cases p2
    exact ⟨hideAll_get _ Np.1 (out pe Np.2.2 Np.2.1), fun q => by rw [q, h2] at p2; cases p2⟩

theorem raise_own {w : World} {A : Around} {s : Shared} {env : Env} {x : Sem Value} {Q : Flow → Shared → Prop} {E : Value → Shared → Prop} (hh : A.handled = none)
    (h : wpAny (model PG w) A x (fun v s₁ => ∃ e d vs sl, v = .ref e ∧ (hd.heap_39 w.params).In s₁.heap ∧ s₁.heap.get? e = some { cls := .ref 51, dict := d, data := .fields vs, slots := sl } ∧ vs[1]? = some .none ∧ E (.ref e) s₁) E s) :
    wpAny (model PG w) A (raiseStmt env (some x) none) Q E s := by
  obtain ⟨nm, q, N, bs, hdct, sn, sub, ab, col, dd, k0, k1, k2, k3, k5, hC0⟩ := (cl51 w).ok
  have hcB : (Value.ref 51 :: .ref 31 :: bmE).contains (.type "BaseException") = true := by decide
  unfold raiseStmt
  refine wpAny_bind (wpAny_mono h (fun v s₁ h₁ => ?_) fun _ _ x => x)
  obtain ⟨e, d, vs, sl, rfl, Y, he, hv1, hE⟩ := h₁
  have hC := Y _ _ hC0
  obtain ⟨hp, g, dr, tk, os⟩ := s₁
  dsimp only at he hC
  repeat (first | with_reducible refine wpAny_loadPart_at he ?_ | with_reducible refine wpAny_loadPart_at hC ?_ | (with_reducible refine wpAny_isSubtype_exc hC ?_; rw [hcB]) | with_reducible refine wpAny_field he rfl hv1 ?_ | wp_step)
  exact wpAny_raiseNew_none hh hE
end

section
variable {W : Wd} {fi : Fi} {dp un : Nat} {loc : Loc} {H : AH} {X : Xs} {h₀ h : Heap} {L : Addr} {m : Str → Option Value} {led pv : List (Addr × Obj)}
theorem upd_upd' (H : AH) (a : Addr) (o o' : AO) : Mine.upd (Mine.upd H a o) a o' = Mine.upd H a o' := by
  funext b; unfold Mine.upd; by_cases q : b = a
  · rw [if_pos q, if_pos q]
  · rw [if_neg q, if_neg q, if_neg q]
theorem WpL.mono {t : Env → Sem (List Value)} {R R' : List AV → AH → Prop} (h : WpL W fi dp un loc H t R X) (hr : ∀ v H', R v H' → R' v H') : WpL W fi dp un loc H t R' X :=
  .mk fun A A₀ base h₀ outer L m led pv s Q E am lr hp hQ hE => h.run A A₀ base h₀ outer L m led pv s Q E am lr hp (fun v av H' led' h' tk r => hQ v av H' led' h' tk (hr _ _ r)) hE
theorem Call_OK.mono {f : Value} {as : List AV} {R R' : AV → AH → Prop} (h : Call_OK W dp un H f as R X) (hr : ∀ v H', R v H' → R' v H') : Call_OK W dp un H f as R' X :=
  fun vs hv => .mk fun fi A A₀ base h₀ outer L m led pv s Q E am hp hQ hE => (h vs hv).run fi A A₀ base h₀ outer L m led pv s Q E am hp (fun v av H' led' h' tk r => hQ v av H' led' h' tk (hr _ _ r)) hE
theorem amb_underE {A A₀ : Around} {base h₀ : Heap} {outer : List Env} {L : Addr} {pos : List Value} (am : Amb W fi dp un A A₀ base h₀ outer L) :
    Amb W fi (dp + 1) (un + 1) (A.under (.builtin "type.__call__" ⟨.ref 51 :: pos, []⟩)) A₀ base h₀ outer L := amb_under am
theorem c_ReadError {k : Str} {a : Int} (hdp : dp ≤ 900) :
    Call_OK W dp un H (.ref 51) [.str k, .int a] (fun v H' => ∃ e d, v = .ref e ∧ H e = none ∧ H d = none ∧ d ≠ e ∧ H' = Mine.upd (Mine.upd H d (.dict [("kind", .str k), ("at", .int a)])) e (.exc (some d) true)) X := by
  intro vs hvs
  constructor
  intro fi A A₀ base h₀ outer L m led pv s Q E am hp hQ hE
  obtain ⟨hh, g, dr, tk, os⟩ := s
  dsimp only at hp hQ
  have hlen : vs.length ≤ sizeLine := by
    obtain ⟨v1, v2, rfl, _⟩ := vrs2 hvs
    show 2 ≤ sizeLine; rw [sizeLine_eq]; omega
  refine rd_call (am.Kin hp) hlen ?_
  have hlt : ∀ p ∈ led, p.1 < hh.objs.size := fun p hpp => Heap.lt_size (hp.nw p hpp).1
  have e1 : H (hh.objs.size + 1) = none := hp.fresh (fun p hpp => Nat.lt_succ_of_lt (hlt p hpp))
  have N2 := (hp.nw.push hp.fr (excTup vs)).push (hp.fr.push _) (excObj hh.objs.size)
  rw [Heap.size_push] at N2
  have hp' : Hp W h₀ L m ((hh.objs.size + 1, excObj hh.objs.size) :: (hh.objs.size, excTup vs) :: led) pv (Mine.upd H (hh.objs.size + 1) (.exc none true)) (excHeap hh vs) := by
    refine ⟨(hp.fr.push _).push _, N2, ?_, ?_, ?_⟩
    · rw [List.map_cons, List.map_cons]
      refine List.Pairwise.cons (fun b hb => ?_) (List.Pairwise.cons (fun b hb => ?_) hp.ord)
      · rcases List.mem_cons.mp hb with rfl | hb
        · exact Nat.lt_succ_self _
        · obtain ⟨p, hpp, rfl⟩ := List.mem_map.mp hb; exact Nat.lt_succ_of_lt (hlt p hpp)
      · obtain ⟨p, hpp, rfl⟩ := List.mem_map.mp hb; exact hlt p hpp
    · intro b o q
      unfold Mine.upd at q
      split at q
      · rename_i z; subst z; cases q
        exact ⟨_, .head _, _, _, rfl, by simp, fun _ => rfl⟩
      · obtain ⟨ob, h1, h2⟩ := hp.hp b o q; exact ⟨ob, .tail _ (.tail _ h1), h2⟩
    · intro p hpp
      obtain ⟨h1, h2⟩ := hp.pv p hpp
      refine ⟨.tail _ (.tail _ h1), ?_⟩
      unfold Mine.upd
      rw [if_neg (Nat.ne_of_lt (Nat.lt_succ_of_lt (hlt p h1)))]; exact h2
  refine wpAny_call ?_
  refine' code_ok (dp' := _) (un' := _) (binds := [("self", .ref (hh.objs.size + 1)), ("kind", .str k), ("at", .int a)]) (R := fun v H' => v = .none ∧ ∃ d, H d = none ∧ d ≠ hh.objs.size + 1 ∧ H' = Mine.upd (Mine.upd H d (.dict [("kind", .str k), ("at", .int a)])) (hh.objs.size + 1) (.exc (some d) true)) (X := X)
    (as := [.ref (hh.objs.size + 1), .str k, .int a]) (fnAt_of ?ho ?hcd ?a ?b ?c ?d ?ne) (binds_of ?hb) ?hl (Nat.le_refl _) (Nat.le_refl _) ?hr ?hbody (amb_underE am) hp' ?hvs ?hQ ?hE
  case ho => intro w; k_is
  case hcd => intro w; k_is
  case a => rfl
  case b => rfl
  case c => rfl
  case d => rfl
  case ne => decide +kernel
  case hb => exact binds3 fun _ _ _ => rfl
  case hl => rfl
  case hr => omega
  case hvs => exact ⟨rfl, hvs⟩
  case hbody =>
    walk_at "s"
    walk_at "v"
    refine put_exc0 (by rw [Mine.upd, if_pos rfl]) en_kind fun d hd0 hde => ?_
    have hd0' : H d = none := by unfold Mine.upd at hd0; rw [if_neg hde] at hd0; exact hd0
    walk_at "s"
    walk_at "v"
    refine put_exc (e := hh.objs.size + 1) (d := d) (fs := [("kind", .str k)]) (b := true) (by rw [Mine.upd, if_pos rfl]) (by rw [Mine.upd, if_neg hde, Mine.upd, if_pos rfl]) en_at (by simp) ?_
    walk_at "s"
    refine ⟨rfl, d, hd0', hde, ?_⟩
    funext b
    unfold Mine.upd
    by_cases q : b = d
    · subst q; rw [if_pos rfl, if_neg hde, if_pos rfl]; rfl
    · rw [if_neg q]
      by_cases q2 : b = hh.objs.size + 1
      · rw [if_pos q2, if_pos q2]
      · rw [if_neg q2, if_neg q2, if_neg q, if_neg q, if_neg q2]
  case hQ =>
    intro v av H' led' h'' tk' r hv hp''
    obtain ⟨rfl, d, h1, h2, h3⟩ := r
    cases hv
    exact ⟨rfl, hQ _ _ _ _ _ _ ⟨_, d, rfl, e1, h1, h2, h3⟩ rfl hp''⟩
  case hE => exact fun e k a h'' tk' hx hat => hE e k a h'' tk' hx hat

theorem n_ReadError (w : World) : nsIn (hd.heap_39 w.params) mainGlobals "ReadError" = some (some (.ref 51)) := by k_is
theorem k_ReadError (w : World) : keepIn (hd.heap_39 w.params) (.ref 51) = true := by k_is
theorem s_raise {args : List Expr} {np cp pos : Pos} {R : AF → Loc → AH → Prop}
    (h : WpAs W fi dp un loc H cp args (fun as H2 => ∃ k a, as = [.str k, .int a] ∧ X k a) X) (hdp : dp ≤ 900) (hg : globIn fi.scope "ReadError" = true) (hpl : args.all plainArg = true) :
    WpS W fi dp un loc H (.Raise (some (.Call (.Name "ReadError" np) args [] cp)) none pos) R X := by
  constructor
  intro A A₀ base h₀ outer L m led pv s Q E am lr hp hQ hE
  rw [arm_exec_Raise]
  have hv : WpE W fi dp un loc H (.Call (.Name "ReadError" np) args [] cp) (fun v H' => ∃ k a e d, v = .ref e ∧ X k a ∧ H' e = some (.exc (some d) true) ∧ H' d = some (.dict [("kind", .str k), ("at", .int a)])) X :=
    e_call n_ReadError k_ReadError hg hpl (h.mono fun as H2 r => by
      obtain ⟨k, a, rfl, hx⟩ := r
      refine Call_OK.mono (c_ReadError hdp) fun v H' r' => ?_
      obtain ⟨e, d, rfl, h1, h2, h3, rfl⟩ := r'
      exact ⟨k, a, e, d, rfl, hx, by rw [Mine.upd, if_pos rfl], by rw [Mine.upd, if_neg h3, Mine.upd, if_pos rfl]⟩)
  have run := hv.run A A₀ base h₀ outer L m led pv s (fun v s₁ => ∃ e d vs sl, v = .ref e ∧ (hd.heap_39 W.w.params).In s₁.heap ∧ s₁.heap.get? e = some { cls := .ref 51, dict := d, data := .fields vs, slots := sl } ∧ vs[1]? = some .none ∧ E (.ref e) s₁) E am lr hp (fun v av H' led' h' tk r hvr hp' => ?_) (hE m)
  · first
    | exact wpAny_bind (wpAny_standAt (raise_own am.handled (wpAny_bind (wpAny_mono run (fun v s₁ h₁ => wpAny_bind (wpAny_standAt (wpAny_pure h₁))) fun _ _ x => x))))
    | (show wpAny (MD W) A (do standAt pos; raiseStmt (fi.env L) (some (do let v ← eval (.Call (.Name "ReadError" np) args [] cp) (fi.env L); standAt pos; pure v)) none) Q E s
       exact wpAny_bind (wpAny_standAt (raise_own am.handled (wpAny_bind (wpAny_mono run (fun v s₁ h₁ => wpAny_bind (wpAny_standAt (wpAny_pure h₁))) fun _ _ x => x)))))
  · obtain ⟨k, a, e, d, rfl, hx, h1, h2⟩ := r
    cases hvr
    have at_ := excAt_new am hp' h1 h2
    obtain ⟨ob, m1, vs, sl, rfl, hsz, hv1⟩ := hp'.hp e _ h1
    exact ⟨e, _, vs, sl, rfl, am.Kin hp', (hp'.nw _ m1).1, hv1 rfl, hE m e k a h' tk hx at_⟩
end

section
variable {W : Wd} {fi : Fi} {dp un : Nat} {loc : Loc} {H : AH} {X : Xs} {R : AV → AH → Prop}

noncomputable def isL (c : Nat) : Bool := (decide (97 ≤ c) && decide (c ≤ 122)) || (decide (65 ≤ c) && decide (c ≤ 90))
noncomputable def isD (c : Nat) : Bool := decide (48 ≤ c) && decide (c ≤ 57)
noncomputable def isN (c : Nat) : Bool := isL c || (isD c || (c == 46 || c == 95))
noncomputable def onHd (p : Nat → Bool) : List Nat → Bool
  | [] => false
  | c :: _ => p c
theorem le_lit (c : Nat) (l : List Nat) : (!decide ((sg l).cps.toList < (mk [c]).cps.toList)) = onHd (fun d => decide (c ≤ d)) l := by
  cases l with
  | nil => simp [sg, mk, onHd]
  | cons d r =>
    show (!decide ([d] < [c])) = decide (c ≤ d)
    rw [StrLaws.lt_cons_cons]
    by_cases h : d < c
    · simp [h]
    · simp [h]; omega
theorem lit_le (c : Nat) (d : Nat) (r : List Nat) : (!decide ((mk [c]).cps.toList < (sg (d :: r)).cps.toList)) = decide (d ≤ c) := by
  show (!decide ([c] < [d])) = decide (d ≤ c)
  rw [StrLaws.lt_cons_cons]
  by_cases h : c < d
  · simp [h]
  · simp [h]; omega
theorem eq_lit (c : Nat) (l : List Nat) : (sg l == mk [c]) = onHd (fun d => d == c) l := by
  cases l with
  | nil => simp [sg, mk_eq, onHd]
  | cons d r =>
    show (mk [d] == mk [c]) = (d == c)
    rw [mk_eq]
    by_cases h : d = c <;> simp [h]
theorem eq_emp (l : List Nat) : (sg l == mk []) = l.isEmpty := by
  cases l with
  | nil => simp [sg]
  | cons d r => simp [sg, mk_eq]

theorem lit0 : Str.ofString "0" = mk [48] := by decide +kernel
theorem lit9 : Str.ofString "9" = mk [57] := by decide +kernel
theorem lita : Str.ofString "a" = mk [97] := by decide +kernel
theorem litz : Str.ofString "z" = mk [122] := by decide +kernel
theorem litA : Str.ofString "A" = mk [65] := by decide +kernel
theorem litZ : Str.ofString "Z" = mk [90] := by decide +kernel
theorem litDot : Str.ofString "." = mk [46] := by decide +kernel
theorem litUs : Str.ofString "_" = mk [95] := by decide +kernel

theorem dig_of (l : List Nat) : ((!decide ((sg l).cps.toList < (Str.ofString "0").cps.toList)) && !decide ((Str.ofString "9").cps.toList < (sg l).cps.toList)) = onHd isD l := by
  rw [lit0, lit9, le_lit]
  cases l with
  | nil => rfl
  | cons c r => rw [lit_le]; rfl
theorem let_of (l : List Nat) : (((!decide ((sg l).cps.toList < (Str.ofString "a").cps.toList)) && !decide ((Str.ofString "z").cps.toList < (sg l).cps.toList)) || ((!decide ((sg l).cps.toList < (Str.ofString "A").cps.toList)) && !decide ((Str.ofString "Z").cps.toList < (sg l).cps.toList))) = onHd isL l := by
  rw [lita, litz, litA, litZ, le_lit, le_lit]
  cases l with
  | nil => rfl
  | cons c r => rw [lit_le, lit_le]; rfl

theorem c_is_digit {l : List Nat} (hd : dp ≤ 900) (r : R (.bool (onHd isD l)) H) : Call_OK W dp un H (.ref 139) [.str (sg l)] R X := by
  ((refine' call_def (dp' := _) (un' := _) (fnAt_of ?ho ?hcd ?a ?b ?c ?d ?ne) (binds_of ?hb) ?hl (Nat.le_refl _) (Nat.le_refl _) ?hr ?body); (case ho => intro w; k_is); (case hcd => intro w; k_is); (case a => rfl); (case b => rfl); (case c => rfl); (case d => rfl); (case ne => decide +kernel); (case hb => first | exact binds0 rfl | exact binds1 fun _ => rfl | exact binds2 fun _ _ => rfl | exact binds3 fun _ _ _ => rfl | exact binds5 fun _ _ _ _ _ => rfl); (case hl => rfl); (case hr => omega))
  walk_at "s"
  walk_at "v"
  (apply jAnd rfl; focus (intro _))
  · walk_at "v"
    exact ⟨rfl, rfl⟩
  · rw [dig_of]; exact r
theorem c_is_letter {l : List Nat} (hd : dp ≤ 900) (r : R (.bool (onHd isL l)) H) : Call_OK W dp un H (.ref 132) [.str (sg l)] R X := by
  ((refine' call_def (dp' := _) (un' := _) (fnAt_of ?ho ?hcd ?a ?b ?c ?d ?ne) (binds_of ?hb) ?hl (Nat.le_refl _) (Nat.le_refl _) ?hr ?body); (case ho => intro w; k_is); (case hcd => intro w; k_is); (case a => rfl); (case b => rfl); (case c => rfl); (case d => rfl); (case ne => decide +kernel); (case hb => first | exact binds0 rfl | exact binds1 fun _ => rfl | exact binds2 fun _ _ => rfl | exact binds3 fun _ _ _ => rfl | exact binds5 fun _ _ _ _ _ => rfl); (case hl => rfl); (case hr => omega))
  walk_at "s"
  walk_at "v"
  (apply jAnd rfl; focus (intro _))
  · walk_at "v"; exact ⟨rfl, rfl⟩
  (apply jAnd rfl; focus (intro _))
  · walk_at "v"
    (apply jAnd rfl; focus (intro _))
    · walk_at "v"; exact ⟨rfl, rfl⟩
    · exact ⟨rfl, rfl⟩
  · rw [let_of]; exact r
theorem c_is_name_char {l : List Nat} (hd : dp ≤ 800) (r : R (.bool (onHd isN l)) H) : Call_OK W dp un H (.ref 146) [.str (sg l)] R X := by
  ((refine' call_def (dp' := _) (un' := _) (fnAt_of ?ho ?hcd ?a ?b ?c ?d ?ne) (binds_of ?hb) ?hl (Nat.le_refl _) (Nat.le_refl _) ?hr ?body); (case ho => intro w; k_is); (case hcd => intro w; k_is); (case a => rfl); (case b => rfl); (case c => rfl); (case d => rfl); (case ne => decide +kernel); (case hb => first | exact binds0 rfl | exact binds1 fun _ => rfl | exact binds2 fun _ _ => rfl | exact binds3 fun _ _ _ => rfl | exact binds5 fun _ _ _ _ _ => rfl); (case hl => rfl); (case hr => omega))
  walk_at "s"
  walk_at "v"
  refine c_is_letter (by omega) ?_
  (apply jAnd rfl; focus (intro _))
  · walk_at "v"
    refine c_is_digit (by omega) ?_
    (apply jAnd rfl; focus (intro _))
    · walk_at "v"
      (apply jAnd rfl; focus (intro _))
      · walk_at "v"; exact ⟨rfl, rfl⟩
      · exact ⟨rfl, rfl⟩
    · exact ⟨rfl, rfl⟩
  · have e : (onHd isL l || (onHd isD l || ((sg l == Str.ofString ".") || (sg l == Str.ofString "_")))) = onHd isN l := by
      rw [litDot, litUs, eq_lit, eq_lit]
      cases l <;> rfl
    rw [e]; exact r

/-- the lexer's object -/
noncomputable def kws : List Str := ["if", "else", "repeat", "while", "function", "for", "next", "break", "in", "TRUE", "FALSE", "NULL", "Inf", "NaN", "NA", "NA_integer_", "NA_real_", "NA_character_"]
noncomputable def lxF (T : Str) (a : Int) (nl : Bool) (ks : Addr) : List (Str × AV) := [("text", .str T), ("at", .int a), ("newline", .bool nl), ("keys", .ref ks)]
structure Lx (H : AH) (x d ks : Addr) (T : Str) (a : Int) (nl : Bool) : Prop where
  x : H x = some (.inst 297 d)
  d : H d = some (.dict (lxF T a nl ks))
  ks : H ks = some (.tup (avStrs kws))
theorem ma_char : MethAt 297 "char" 189 := ⟨fun w => ⟨by k_is, by k_is, by k_is⟩⟩
theorem ok_char : (Callee.own 189).ok := fun w => by k_is
theorem fa_text : FieldAt 297 "text" := ⟨fun w => ⟨by k_is, by k_is, _, by k_is, by k_is⟩⟩
theorem fa_at : FieldAt 297 "at" := ⟨fun w => ⟨by k_is, by k_is, _, by k_is, by k_is⟩⟩
theorem fa_newline : FieldAt 297 "newline" := ⟨fun w => ⟨by k_is, by k_is, _, by k_is, by k_is⟩⟩
theorem fa_keys : FieldAt 297 "keys" := ⟨fun w => ⟨by k_is, by k_is, _, by k_is, by k_is⟩⟩

theorem c_char {x d ks : Addr} {T : Str} {a : Int} {nl : Bool} {k : Nat} (lx : Lx H x d ks T a nl) (hT : T.length ≤ 1000000) (hd : dp ≤ 900) (r : R (.str (sg (tl T k))) H) : Call_OK W dp un H (.ref 189) [.ref x, .int k] R X := by
  ((refine' call_def (dp' := _) (un' := _) (fnAt_of ?ho ?hcd ?a ?b ?c ?d ?ne) (binds_of ?hb) ?hl (Nat.le_refl _) (Nat.le_refl _) ?hr ?body); (case ho => intro w; k_is); (case hcd => intro w; k_is); (case a => rfl); (case b => rfl); (case c => rfl); (case d => rfl); (case ne => decide +kernel); (case hb => first | exact binds0 rfl | exact binds1 fun _ => rfl | exact binds2 fun _ _ => rfl | exact binds3 fun _ _ _ => rfl | exact binds5 fun _ _ _ _ _ => rfl); (case hl => rfl); (case hr => omega))
  walk_at "s"
  walk_at "v"
  refine ⟨x, 297, d, _, .str T, rfl, lx.x, lx.d, fa_text, rfl, rfl, ?_⟩
  walk_at "v"
  refine ⟨T, k, (k : Int) + 1, rfl, rfl, rfl, Nat.le_trans hT (by decide), ?_⟩
  rw [slice_one]
  exact r
end

section
variable {W : Wd} {fi : Fi} {dp un : Nat} {loc : Loc} {H : AH} {X : Xs} {R : AV → AH → Prop}

theorem upd_same (H : AH) (a : Addr) (o : AO) : upd H a o a = some o := if_pos rfl
theorem upd_ne (H : AH) {a b : Addr} (o : AO) (h : b ≠ a) : upd H a o b = H b := if_neg h
theorem upd_upd (H : AH) (a : Addr) (o o' : AO) : upd (upd H a o) a o' = upd H a o' := by
  funext b
  unfold upd
  split <;> rfl
/-- all but one object stands as it stood -/
noncomputable def Fram (H H' : AH) (d : Addr) : Prop := ∀ a o, a ≠ d → H a = some o → H' a = some o
theorem Fram.refl (H : AH) (d : Addr) : Fram H H d := fun _ _ _ h => h
theorem Fram.trans {H H' H'' : AH} {d : Addr} (h : Fram H H' d) (h' : Fram H' H'' d) : Fram H H'' d := fun a o n e => h' a o n (h a o n e)
theorem Fram.upd {H : AH} {d : Addr} (o : AO) : Fram H (upd H d o) d := fun a o' n e => by rw [upd_ne _ _ n]; exact e
theorem Fram.new {H H' : AH} {d t : Addr} {o : AO} (h : Fram H H' d) (ht : H' t = none) : Fram H (Mine.upd H' t o) d := fun a o' n e => by
  have := h a o' n e
  rw [upd_ne _ _ (fun q => by rw [q, ht] at this; cases this)]; exact this
theorem Lx.ne {x d ks : Addr} {T : Str} {a : Int} {nl : Bool} (h : Lx H x d ks T a nl) : x ≠ d ∧ ks ≠ d := by
  refine ⟨fun q => ?_, fun q => ?_⟩
  · have := h.x; rw [q, h.d] at this; cases this
  · have := h.ks; rw [q, h.d] at this; cases this
theorem Lx.upd {x d ks : Addr} {T : Str} {a a' : Int} {nl nl' : Bool} (h : Lx H x d ks T a nl) : Lx (Mine.upd H d (.dict (lxF T a' nl' ks))) x d ks T a' nl' :=
  ⟨by rw [upd_ne _ _ h.ne.1]; exact h.x, upd_same _ _ _, by rw [upd_ne _ _ h.ne.2]; exact h.ks⟩
theorem Lx.new {x d ks t : Addr} {T : Str} {a : Int} {nl : Bool} {o : AO} (h : Lx H x d ks T a nl) (ht : H t = none) : Lx (Mine.upd H t o) x d ks T a nl := by
  have e : ∀ {b o'}, H b = some o' → Mine.upd H t o b = some o' := fun {b o'} hb => by rw [upd_ne _ _ (fun q => by rw [q, ht] at hb; cases hb)]; exact hb
  exact ⟨e h.x, e h.d, e h.ks⟩
structure Tok_ (H : AH) (t td : Addr) (kind : Str) (v : AV) (a : Int) (nl : Bool) : Prop where
  t : H t = some (.inst 114 td)
  td : H td = some (.dict [("kind", .str kind), ("value", v), ("at", .int a), ("newline", .bool nl)])
theorem cls_tok : ClsOK 114 111 := ⟨fun w => ⟨by k_is, by k_is, by k_is⟩⟩
theorem sa_kind : SetAt 114 "kind" := ⟨fun w => ⟨by k_is, by k_is, by k_is, by k_is⟩⟩
theorem sa_value : SetAt 114 "value" := ⟨fun w => ⟨by k_is, by k_is, by k_is, by k_is⟩⟩
theorem sa_at : SetAt 114 "at" := ⟨fun w => ⟨by k_is, by k_is, by k_is, by k_is⟩⟩
theorem sa_newline : SetAt 114 "newline" := ⟨fun w => ⟨by k_is, by k_is, by k_is, by k_is⟩⟩
theorem sl_at : SetAt 297 "at" := ⟨fun w => ⟨by k_is, by k_is, by k_is, by k_is⟩⟩
theorem sl_newline : SetAt 297 "newline" := ⟨fun w => ⟨by k_is, by k_is, by k_is, by k_is⟩⟩

theorem c_Token {kind : Str} {v : AV} {a : Int} {nl : Bool} (hd : dp ≤ 900)
    (r : ∀ t td H', H t = none → H td = none → t ≠ td → H' = upd (upd H td (.dict [("kind", .str kind), ("value", v), ("at", .int a), ("newline", .bool nl)])) t (.inst 114 td) → R (.ref t) H') :
    Call_OK W dp un H (.ref 114) [.str kind, v, .int a, .bool nl] R X := by
  refine' call_cls_ok cls_tok (dp' := _) (un' := _) (binds := fun x => [("self", .ref x), ("kind", .str kind), ("value", v), ("at", .int a), ("newline", .bool nl)]) (fnAt_of ?ho ?hcd ?a ?b ?c ?d ?ne) (fun x => binds_of ?hb) ?hl (Nat.le_refl _) (Nat.le_refl _) ?hr ?body
  case ho => intro w; k_is
  case hcd => intro w; k_is
  case a => rfl
  case b => rfl
  case c => rfl
  case d => rfl
  case ne => decide +kernel
  case hb => exact binds5 fun _ _ _ _ _ => rfl
  case hl => intro x; rfl
  case hr => omega
  intro x d hx hd' hne
  walk_at "s"
  walk_at "v"
  refine put_ok (x := x) (C := 114) (d := d) (fs := []) (by rw [upd_same]) (by rw [upd_ne _ _ (Ne.symm hne), upd_same]) sa_kind (by simp) ?_
  walk_at "s"
  walk_at "v"
  refine put_ok (x := x) (C := 114) (d := d) (fs := [("kind", .str kind)]) (by rw [upd_ne _ _ hne, upd_same]) (by rw [upd_same]; rfl) sa_value (by simp) ?_
  walk_at "s"
  walk_at "v"
  refine put_ok (x := x) (C := 114) (d := d) (fs := [("kind", .str kind), ("value", v)]) (by rw [upd_upd, upd_ne _ _ hne, upd_same]) (by rw [upd_same]; rfl) sa_at (by simp) ?_
  walk_at "s"
  walk_at "v"
  refine put_ok (x := x) (C := 114) (d := d) (fs := [("kind", .str kind), ("value", v), ("at", .int a)]) (by rw [upd_upd, upd_upd, upd_ne _ _ hne, upd_same]) (by rw [upd_same]; rfl) sa_newline (by simp) ?_
  walk_at "s"
  refine ⟨trivial, r x d _ hx hd' hne ?_⟩
  rw [upd_upd, upd_upd, upd_upd]
  funext b
  unfold upd
  by_cases h1 : b = d
  · subst h1; rw [if_pos rfl, if_neg (Ne.symm hne), if_pos rfl]; rfl
  · rw [if_neg h1, if_neg h1, if_neg h1]

theorem ok_token : (Callee.own 196).ok := fun w => by k_is
theorem ma_token : MethAt 297 "token" 196 := ⟨fun w => ⟨by k_is, by k_is, by k_is⟩⟩
theorem c_token {x d ks : Addr} {T : Str} {a : Int} {nl : Bool} {k e : Int} {kind : Str} {v : AV} (lx : Lx H x d ks T a nl) (hd : dp ≤ 800)
    (r : ∀ t td H', Tok_ H' t td kind v k nl → Lx H' x d ks T e nl → Fram H H' d → R (.ref t) H') : Call_OK W dp un H (.ref 196) [.ref x, .str kind, v, .int k, .int e] R X := by
  ((refine' call_def (dp' := _) (un' := _) (fnAt_of ?ho ?hcd ?a ?b ?c ?d ?ne) (binds_of ?hb) ?hl (Nat.le_refl _) (Nat.le_refl _) ?hr ?body); (case ho => intro w; k_is); (case hcd => intro w; k_is); (case a => rfl); (case b => rfl); (case c => rfl); (case d => rfl); (case ne => decide +kernel); (case hb => first | exact binds0 rfl | exact binds1 fun _ => rfl | exact binds2 fun _ _ => rfl | exact binds3 fun _ _ _ => rfl | exact binds5 fun _ _ _ _ _ => rfl); (case hl => rfl); (case hr => omega))
  walk_at "s"
  walk_at "v"
  refine put_ok lx.x lx.d sl_at (by simp [lxF]) ?_
  have lx' : Lx (upd H d (.dict (lxF T e nl ks))) x d ks T e nl := lx.upd
  have e1 : putF "at" (.int e) (lxF T a nl ks) = lxF T e nl ks := rfl
  rw [e1]
  walk_at "s"
  walk_at "v"
  refine ⟨x, 297, d, _, .bool nl, rfl, lx'.x, lx'.d, fa_newline, rfl, rfl, ?_⟩
  walk_at "v"
  refine c_Token (by omega) fun t td H' ht htd hne hH => ?_
  have f1 : Fram H (upd (upd H d (.dict (lxF T e nl ks))) td (.dict [("kind", .str kind), ("value", v), ("at", .int k), ("newline", .bool nl)])) d := (Fram.upd _).new htd
  have ht' : (upd (upd H d (.dict (lxF T e nl ks))) td (.dict [("kind", .str kind), ("value", v), ("at", .int k), ("newline", .bool nl)])) t = none := by rw [upd_ne _ _ hne]; exact ht
  refine r t td H' ⟨?_, ?_⟩ ?_ ?_
  · rw [hH, upd_same]
  · rw [hH, upd_ne _ _ (Ne.symm hne), upd_same]
  · rw [hH]; exact (lx'.new htd).new ht'
  · rw [hH]; exact f1.new ht'
end

section
variable {W : Wd} {fi : Fi} {dp un : Nat} {loc : Loc} {H : AH} {X : Xs} {R : AV → AH → Prop}

theorem put_at {x d ks : Addr} {T : Str} {a e : Int} {nl : Bool} {R : AH → Prop} (lx : Lx H x d ks T a nl) (r : ∀ H', Lx H' x d ks T e nl → Fram H H' d → R H') : PutOK W dp un H (.ref x) "at" (.int e) R :=
  put_ok lx.x lx.d sl_at (by simp [lxF]) (r _ lx.upd (Fram.upd _))
theorem put_nl {x d ks : Addr} {T : Str} {a : Int} {nl e : Bool} {R : AH → Prop} (lx : Lx H x d ks T a nl) (r : ∀ H', Lx H' x d ks T a e → Fram H H' d → R H') : PutOK W dp un H (.ref x) "newline" (.bool e) R :=
  put_ok lx.x lx.d sl_newline (by simp [lxF]) (r _ lx.upd (Fram.upd _))

noncomputable def nd (p : Nat → Bool) (l : List Nat) : Nat := (l.takeWhile p).length
theorem nd_pos {p : Nat → Bool} {l : List Nat} (h : onHd p l = true) : nd p l = nd p (l.drop 1) + 1 := by
  cases l with
  | nil => cases h
  | cons c r => have : p c = true := h; simp [nd, this]
theorem nd_zero {p : Nat → Bool} {l : List Nat} (h : onHd p l = false) : nd p l = 0 := by
  cases l with
  | nil => rfl
  | cons c r => have : p c = false := h; simp [nd, this]

theorem ok_digits_end : (Callee.own 238).ok := fun w => by k_is
theorem ma_digits_end : MethAt 297 "digits_end" 238 := ⟨fun w => ⟨by k_is, by k_is, by k_is⟩⟩
theorem c_digits_end {x d ks : Addr} {T : Str} {a : Int} {nl : Bool} {k : Nat} (lx : Lx H x d ks T a nl) (hT : T.length ≤ 1000000) (hd : dp ≤ 700) (r : R (.int (k + nd isD (tl T k) : Nat)) H) :
    Call_OK W dp un H (.ref 238) [.ref x, .int k] R X := by
  ((refine' call_def (dp' := _) (un' := _) (fnAt_of ?ho ?hcd ?a ?b ?c ?d ?ne) (binds_of ?hb) ?hl (Nat.le_refl _) (Nat.le_refl _) ?hr ?body); (case ho => intro w; k_is); (case hcd => intro w; k_is); (case a => rfl); (case b => rfl); (case c => rfl); (case d => rfl); (case ne => decide +kernel); (case hb => first | exact binds0 rfl | exact binds1 fun _ => rfl | exact binds2 fun _ _ => rfl | exact binds3 fun _ _ _ => rfl | exact binds5 fun _ _ _ _ _ => rfl); (case hl => rfl); (case hr => omega))
  refine ss_while (σ := Nat) (fun i => i + nd isD (tl T i) = k + nd isD (tl T k)) (fun i => [("self", .ref x), ("index", .int i)]) (fun _ => H) (fun i => nd isD (tl T i)) k rfl ⟨rfl, rfl, trivial⟩ (Ext.refl _) ?_
  intro i hi
  walk_at "v"
  (((refine' ⟨.own 189, ok_char, meth_inst (Lx.x ?lx) (Lx.d ?lx) ma_char rfl, ?_⟩); (case lx => assumption); (walk_at "v")); ((refine' c_char ?lx ?hT ?hd ?_); (case lx => assumption); (case hT => assumption); (case hd => omega); (walk_at "v")))
  refine c_is_digit (by omega) ?_
  refine ⟨_, rfl, fun h => ?_, fun h => ?_⟩
  · have e := nd_pos h
    rw [← tl_add] at e
    walk_at "s"
    walk_at "v"
    walk_at "s"
    exact ⟨i + 1, by omega, by omega, ⟨rfl, by simp [setL], trivial⟩, Ext.refl _⟩
  · walk_at "s"
    walk_at "v"
    have e := nd_zero h
    have : i = k + nd isD (tl T k) := by omega
    subst this
    exact r

theorem ok_word : (Callee.own 217).ok := fun w => by k_is
theorem ma_word : MethAt 297 "word" 217 := ⟨fun w => ⟨by k_is, by k_is, by k_is⟩⟩

theorem skp : ∀ (n : Nat) (T : Str) (i : Nat), (tl T i).drop n = tl T (i + n) := fun n T i => (tl_add T i n).symm
theorem c_word {x d ks : Addr} {T : Str} {a : Int} {nl : Bool} {k : Nat} (lx : Lx H x d ks T a nl) (hT : T.length ≤ 1000000) (hd : dp ≤ 700)
    (r : ∀ t td H', Tok_ H' t td (if kws.any (· == mk ((tl T k).takeWhile isN)) then "key" else "id") (.str (mk ((tl T k).takeWhile isN))) k nl → Lx H' x d ks T (k + nd isN (tl T k) : Nat) nl → Fram H H' d → R (.ref t) H') :
    Call_OK W dp un H (.ref 217) [.ref x, .int k] R X := by
  ((refine' call_def (dp' := _) (un' := _) (fnAt_of ?ho ?hcd ?a ?b ?c ?d ?ne) (binds_of ?hb) ?hl (Nat.le_refl _) (Nat.le_refl _) ?hr ?body); (case ho => intro w; k_is); (case hcd => intro w; k_is); (case a => rfl); (case b => rfl); (case c => rfl); (case d => rfl); (case ne => decide +kernel); (case hb => first | exact binds0 rfl | exact binds1 fun _ => rfl | exact binds2 fun _ _ => rfl | exact binds3 fun _ _ _ => rfl | exact binds5 fun _ _ _ _ _ => rfl); (case hl => rfl); (case hr => omega))
  walk_at "s"
  walk_at "v"
  refine ss_while (σ := Nat) (fun i => k ≤ i ∧ i + nd isN (tl T i) = k + nd isN (tl T k)) (fun i => [("self", .ref x), ("at", .int k), ("end", .int i)]) (fun _ => H) (fun i => nd isN (tl T i)) k ⟨Nat.le_refl _, rfl⟩ ⟨rfl, rfl, rfl, trivial⟩ (Ext.refl _) ?_
  rintro i ⟨hki, hi⟩
  walk_at "v"
  (((refine' ⟨.own 189, ok_char, meth_inst (Lx.x ?lx) (Lx.d ?lx) ma_char rfl, ?_⟩); (case lx => assumption); (walk_at "v")); ((refine' c_char ?lx ?hT ?hd ?_); (case lx => assumption); (case hT => assumption); (case hd => omega); (walk_at "v")))
  refine c_is_name_char (by omega) ?_
  refine ⟨_, rfl, fun h => ?_, fun h => ?_⟩
  · have e := nd_pos h
    rw [← tl_add] at e
    walk_at "s"
    walk_at "v"
    walk_at "s"
    exact ⟨i + 1, ⟨by omega, by omega⟩, by omega, ⟨rfl, rfl, by simp [setL], trivial⟩, Ext.refl _⟩
  · have e := nd_zero h
    have : i = k + nd isN (tl T k) := by omega
    subst this
    walk_at "s"
    walk_at "v"
    ((refine' ⟨_, 297, _, _, _, rfl, Lx.x ?lx, Lx.d ?lx, ?fa, ?l1, ?l2, ?_⟩); (case lx => assumption); (case fa => first | exact fa_text | exact fa_at | exact fa_newline | exact fa_keys); (case l1 => exact rfl); (case l2 => exact rfl); (walk_at "v"))
    refine ⟨T, k, _, rfl, rfl, rfl, Nat.le_trans hT (by decide), ?_⟩
    rw [slice_nat T hki, show (tl T k).take (k + nd isN (tl T k) - k) = (tl T k).takeWhile isN by rw [Nat.add_sub_cancel_left]; exact List.prefix_iff_eq_take.mp (List.takeWhile_prefix _) |>.symm]
    walk_at "s"
    walk_at "v"
    ((refine' ⟨_, 297, _, _, _, rfl, Lx.x ?lx, Lx.d ?lx, ?fa, ?l1, ?l2, ?_⟩); (case lx => assumption); (case fa => first | exact fa_text | exact fa_at | exact fa_newline | exact fa_keys); (case l1 => exact rfl); (case l2 => exact rfl); (walk_at "v"))
    refine c_inT lx.ks ?_
    refine ⟨_, rfl, fun h => ?_, fun h => ?_⟩
    · rw [h] at r
      walk_at "s"
      walk_at "v"
      refine ⟨.own 196, ok_token, meth_inst lx.x lx.d ma_token rfl, ?_⟩
      walk_at "v"
      exact c_token lx (by omega) fun t td H' ht lx' fr => r t td H' ht lx' fr
    · rw [h] at r
      walk_at "s"
      walk_at "s"
      walk_at "v"
      refine ⟨.own 196, ok_token, meth_inst lx.x lx.d ma_token rfl, ?_⟩
      walk_at "v"
      exact c_token lx (by omega) fun t td H' ht lx' fr => r t td H' ht lx' fr
end

section
variable {W : Wd} {fi : Fi} {dp un : Nat} {loc : Loc} {H : AH} {X : Xs} {R : AV → AH → Prop}

noncomputable def skipG : Bool → List Nat → Nat × Bool
  | _, [] => (0, false)
  | false, c :: r => if c = 10 then ((skipG false r).1 + 1, true) else if c = 35 then ((skipG true r).1 + 1, (skipG true r).2)
      else if c = 32 ∨ c = 9 ∨ c = 13 ∨ c = 12 then ((skipG false r).1 + 1, (skipG false r).2) else (0, false)
  | true, c :: r => if c = 10 then ((skipG false r).1 + 1, true) else ((skipG true r).1 + 1, (skipG true r).2)
theorem lit_nl : Str.ofString "\n" = mk [10] := by decide +kernel
theorem lit_hash : Str.ofString "#" = mk [35] := by decide +kernel
theorem lit_emp : Str.ofString "" = mk [] := by decide +kernel
theorem lit_gap : Str.ofString " \t\r\x0c" = mk [32, 9, 13, 12] := by decide +kernel
theorem eq_lit' (c : Nat) (l : List Nat) : (mk [c] == sg l) = onHd (fun d => d == c) l := by rw [← eq_lit]; exact BEq.comm
theorem eq_emp' (l : List Nat) : (mk [] == sg l) = l.isEmpty := by rw [← eq_emp]; exact BEq.comm
theorem any_stop (l : List Nat) : [Str.ofString "", Str.ofString "\n"].any (· == sg l) = (l.isEmpty || onHd (fun d => d == 10) l) := by
  simp only [List.any_cons, List.any_nil, Bool.or_false, lit_emp, lit_nl, eq_lit', eq_emp']
theorem contains_sg (ys : List Nat) (c : Nat) (r : List Nat) : Txt.contains (mk ys) (sg (c :: r)) = decide (c ∈ ys) := by
  have := StrLaws.found_one (mk ys) c
  rw [mk_toList] at this
  exact this

theorem ok_skip : (Callee.own 210).ok := fun w => by k_is
theorem ma_skip : MethAt 297 "skip" 210 := ⟨fun w => ⟨by k_is, by k_is, by k_is⟩⟩

theorem c_skip {x d ks : Addr} {T : Str} {nl0 : Bool} {k : Nat} (lx : Lx H x d ks T k nl0) (hT : T.length ≤ 1000000) (hd : dp ≤ 700)
    (r : ∀ H', Lx H' x d ks T (k + (skipG false (tl T k)).1 : Nat) (skipG false (tl T k)).2 → Fram H H' d → R .none H') : Call_OK W dp un H (.ref 210) [.ref x] R X := by
  ((refine' call_def (dp' := _) (un' := _) (fnAt_of ?ho ?hcd ?a ?b ?c ?d ?ne) (binds_of ?hb) ?hl (Nat.le_refl _) (Nat.le_refl _) ?hr ?body); (case ho => intro w; k_is); (case hcd => intro w; k_is); (case a => rfl); (case b => rfl); (case c => rfl); (case d => rfl); (case ne => decide +kernel); (case hb => first | exact binds0 rfl | exact binds1 fun _ => rfl | exact binds2 fun _ _ => rfl | exact binds3 fun _ _ _ => rfl | exact binds5 fun _ _ _ _ _ => rfl); (case hl => rfl); (case hr => omega))
  walk_at "s"
  walk_at "v"
  refine put_nl lx fun H1 lx1 fr1 => ?_
  refine ss_while (σ := Nat × Bool × AH) (fun st => Lx st.2.2 x d ks T st.1 st.2.1 ∧ Fram H st.2.2 d ∧ st.1 + (skipG false (tl T st.1)).1 = k + (skipG false (tl T k)).1 ∧ (st.2.1 || (skipG false (tl T st.1)).2) = (skipG false (tl T k)).2)
    (fun _ => [("self", .ref x)]) (fun st => st.2.2) (fun st => (tl T st.1).length) (k, false, H1) ⟨lx1, fr1, rfl, rfl⟩ ⟨rfl, trivial⟩ (Ext.refl _) ?_
  rintro ⟨i, nl, H2⟩ ⟨lx2, fr2, hi, hn⟩
  walk_at "v"
  refine ⟨true, rfl, fun _ => ?_, fun h => by cases h⟩
  walk_at "s"
  walk_at "v"
  dsimp only at lx2 fr2 hi hn ⊢
  ((refine' ⟨.own 189, ok_char, meth_inst (Lx.x ?lx) (Lx.d ?lx) ma_char rfl, ?_⟩); (case lx => assumption); (walk_at "v"))
  ((refine' ⟨_, 297, _, _, _, rfl, Lx.x ?lx, Lx.d ?lx, ?fa, ?l1, ?l2, ?_⟩); (case lx => assumption); (case fa => first | exact fa_text | exact fa_at | exact fa_newline | exact fa_keys); (case l1 => exact rfl); (case l2 => exact rfl); (walk_at "v"))
  ((refine' c_char ?lx ?hT ?hd ?_); (case lx => assumption); (case hT => assumption); (case hd => omega); (walk_at "v"))
  walk_at "s"
  walk_at "v"
  refine ⟨_, rfl, fun h => ?_, fun h => ?_⟩
  · rw [lit_nl, eq_lit] at h
    obtain ⟨q, hq⟩ : ∃ q, tl T i = 10 :: q := by
      cases e : tl T i with
      | nil => rw [e] at h; cases h
      | cons c q => rw [e] at h; have : c = 10 := by simpa [onHd] using h
                    exact ⟨q, by rw [this]⟩
    have hq1 := tl_cons hq
    walk_at "s"
    walk_at "v"
    refine put_nl lx2 fun H3 lx3 fr3 => ?_
    walk_at "s"
    walk_at "s"
    walk_at "v"
    ((refine' ⟨_, 297, _, _, _, rfl, Lx.x ?lx, Lx.d ?lx, ?fa, ?l1, ?l2, ?_⟩); (case lx => assumption); (case fa => first | exact fa_text | exact fa_at | exact fa_newline | exact fa_keys); (case l1 => exact rfl); (case l2 => exact rfl); (walk_at "v"))
    refine put_at lx3 fun H4 lx4 fr4 => ?_
    walk_at "s"
    refine ⟨(i + 1, true, H4), ⟨lx4, (fr2.trans fr3).trans fr4, ?_, ?_⟩, ?_, ⟨rfl, trivial⟩, Ext.refl _⟩
    · dsimp only; rw [hq] at hi; rw [hq1]; simp [skipG] at hi; omega
    · dsimp only; rw [hq] at hn; rw [← hn]; simp [skipG]
    · dsimp only; rw [hq1, hq]; simp
  · rw [lit_nl, eq_lit] at h
    walk_at "s"
    walk_at "v"
    refine ⟨_, rfl, fun h2 => ?_, fun h2 => ?_⟩
    · rw [lit_hash, eq_lit] at h2
      obtain ⟨q, hq⟩ : ∃ q, tl T i = 35 :: q := by
        cases e : tl T i with
        | nil => rw [e] at h2; cases h2
        | cons c q => rw [e] at h2; have : c = 35 := by simpa [onHd] using h2
                      exact ⟨q, by rw [this]⟩
      have hq1 := tl_cons hq
      refine ss_while (σ := Nat × AH) (fun st => Lx st.2 x d ks T st.1 nl ∧ Fram H st.2 d ∧ st.1 + 1 + (skipG true (tl T (st.1 + 1))).1 = k + (skipG false (tl T k)).1 ∧ (nl || (skipG true (tl T (st.1 + 1))).2) = (skipG false (tl T k)).2 ∧ (tl T (st.1 + 1)).length < (tl T i).length)
        (fun _ => [("self", .ref x)]) (fun st => st.2) (fun st => (tl T st.1).length) (i, H2) ⟨lx2, fr2, ?_, ?_, ?_⟩ ⟨rfl, trivial⟩ (Ext.refl _) ?_
      · dsimp only; rw [hq1]; rw [hq] at hi; simp [skipG] at hi; omega
      · dsimp only; rw [hq1]; rw [hq] at hn; simpa [skipG] using hn
      · dsimp only; rw [hq1, hq]; simp
      rintro ⟨j, H3⟩ ⟨lx3, fr3, hj, hjn, hjl⟩
      dsimp only at lx3 fr3 hj hjn hjl ⊢
      walk_at "v"
      ((refine' ⟨.own 189, ok_char, meth_inst (Lx.x ?lx) (Lx.d ?lx) ma_char rfl, ?_⟩); (case lx => assumption); (walk_at "v"))
      ((refine' ⟨_, 297, _, _, _, rfl, Lx.x ?lx, Lx.d ?lx, ?fa, ?l1, ?l2, ?_⟩); (case lx => assumption); (case fa => first | exact fa_text | exact fa_at | exact fa_newline | exact fa_keys); (case l1 => exact rfl); (case l2 => exact rfl); (walk_at "v"))
      refine c_char (k := j + 1) lx3 hT (by omega) ?_
      walk_at "v"
      ((refine' ⟨Nat.le_of_ble_eq_true rfl, ?_⟩); (intro _ _); (walk_at "v"))
      rw [any_stop]
      refine ⟨_, rfl, fun h3 => ?_, fun h3 => ?_⟩
      · refine WpF.ext (Ext.new (Ext.refl _) (by assumption)) ?_
        obtain ⟨c, q', hq', hc⟩ : ∃ c q', tl T (j + 1) = c :: q' ∧ c ≠ 10 := by
          cases e : tl T (j + 1) with
          | nil => rw [e] at h3; cases h3
          | cons c q' => rw [e] at h3; exact ⟨c, q', rfl, by simpa [onHd] using h3⟩
        have hq1' := tl_cons hq'
        walk_at "s"
        walk_at "v"
        ((refine' ⟨_, 297, _, _, _, rfl, Lx.x ?lx, Lx.d ?lx, ?fa, ?l1, ?l2, ?_⟩); (case lx => assumption); (case fa => first | exact fa_text | exact fa_at | exact fa_newline | exact fa_keys); (case l1 => exact rfl); (case l2 => exact rfl); (walk_at "v"))
        refine put_at lx3 fun H4 lx4 fr4 => ?_
        walk_at "s"
        refine ⟨(j + 1, H4), ⟨lx4, fr3.trans fr4, ?_, ?_, ?_⟩, ?_, ⟨rfl, trivial⟩, Ext.refl _⟩
        · dsimp only; rw [hq1']; rw [hq'] at hj; simp [skipG, hc] at hj; omega
        · dsimp only; rw [hq1']; rw [hq'] at hjn; simpa [skipG, hc] using hjn
        · dsimp only; rw [hq1']; rw [hq'] at hjl; simp at hjl; omega
        · dsimp only; rw [hq']
          have e : tl T (j + 1) = (tl T j).drop 1 := tl_add T j 1
          rw [hq'] at e
          cases e2 : tl T j with
          | nil => rw [e2] at e; cases e
          | cons z zs => rw [e2] at e; cases e; simp
      · refine WpF.ext (Ext.new (Ext.refl _) (by assumption)) ?_
        have h3' : (tl T (j + 1)).isEmpty = true ∨ onHd (fun d => d == 10) (tl T (j + 1)) = true := by simpa only [Bool.not_eq_false', Bool.or_eq_true] using h3
        have key : skipG true (tl T (j + 1)) = skipG false (tl T (j + 1)) := by
          cases e : tl T (j + 1) with
          | nil => rfl
          | cons c q' => rw [e] at h3'; have : c = 10 := by simpa [onHd] using h3'
                         subst this; simp [skipG]
        walk_at "s"
        walk_at "s"
        walk_at "s"
        walk_at "v"
        ((refine' ⟨_, 297, _, _, _, rfl, Lx.x ?lx, Lx.d ?lx, ?fa, ?l1, ?l2, ?_⟩); (case lx => assumption); (case fa => first | exact fa_text | exact fa_at | exact fa_newline | exact fa_keys); (case l1 => exact rfl); (case l2 => exact rfl); (walk_at "v"))
        refine put_at lx3 fun H4 lx4 fr4 => ?_
        walk_at "s"
        exact ⟨(j + 1, nl, H4), ⟨lx4, fr3.trans fr4, by rw [key] at hj; exact hj, by rw [key] at hjn; exact hjn⟩, hjl, ⟨rfl, trivial⟩, Ext.refl _⟩
    · rw [lit_hash, eq_lit] at h2
      walk_at "s"
      walk_at "v"
      refine ⟨_, rfl, ?_⟩
      (apply jTst; focus (intro _))
      · walk_at "v"
        exact ⟨_, rfl, rfl, rfl⟩
      rw [lit_emp, lit_gap, eq_emp]
      refine ⟨fun h3 => ?_, fun h3 => ?_⟩
      · walk_at "s"
        have key : skipG false (tl T i) = (0, false) := by
          cases e : tl T i with
          | nil => rfl
          | cons c q =>
            rw [e] at h h2 h3
            rw [contains_sg] at h3
            have a1 : c ≠ 10 := by simpa [onHd] using h
            have a2 : c ≠ 35 := by simpa [onHd] using h2
            have a3 : ¬ (c = 32 ∨ c = 9 ∨ c = 13 ∨ c = 12) := by simpa using h3
            simp [skipG, a1, a2, a3]
        rw [key] at hi hn
        simp only [Nat.add_zero, Bool.or_false] at hi hn
        rw [← hn, ← hi] at r
        exact r H2 lx2 fr2
      · obtain ⟨c, q, hq, a3⟩ : ∃ c q, tl T i = c :: q ∧ (c = 32 ∨ c = 9 ∨ c = 13 ∨ c = 12) := by
          cases e : tl T i with
          | nil => rw [e] at h3; cases h3
          | cons c q => rw [e, contains_sg] at h3; exact ⟨c, q, rfl, by simp at h3; omega⟩
        have hq1 := tl_cons hq
        rw [hq] at h h2
        have a1 : c ≠ 10 := by simpa [onHd] using h
        have a2 : c ≠ 35 := by simpa [onHd] using h2
        walk_at "s"
        walk_at "s"
        walk_at "s"
        walk_at "s"
        walk_at "v"
        ((refine' ⟨_, 297, _, _, _, rfl, Lx.x ?lx, Lx.d ?lx, ?fa, ?l1, ?l2, ?_⟩); (case lx => assumption); (case fa => first | exact fa_text | exact fa_at | exact fa_newline | exact fa_keys); (case l1 => exact rfl); (case l2 => exact rfl); (walk_at "v"))
        refine put_at lx2 fun H4 lx4 fr4 => ?_
        walk_at "s"
        refine ⟨(i + 1, nl, H4), ⟨lx4, fr2.trans fr4, ?_, ?_⟩, ?_, ⟨rfl, trivial⟩, Ext.refl _⟩
        · dsimp only; rw [hq] at hi; rw [hq1]; simp [skipG, a1, a2, a3] at hi; omega
        · dsimp only; rw [hq] at hn; rw [hq1]; simpa [skipG, a1, a2, a3] using hn
        · dsimp only; rw [hq1, hq]; simp
end

section
variable {W : Wd} {fi : Fi} {dp un : Nat} {loc : Loc} {H : AH} {X : Xs} {R : AV → AH → Prop}

/-! %any% -/
noncomputable def pct : List Nat → Option Nat
  | [] => none
  | c :: r => if c = 37 then some 0 else if c = 10 then none else (pct r).map (· + 1)
theorem lit_pc : Str.ofString "%" = mk [37] := by decide +kernel
theorem lit_badc : Str.ofString "bad_character" = ("bad_character" : Str) := rfl
theorem ok_percent : (Callee.own 224).ok := fun w => by k_is
theorem ma_percent : MethAt 297 "percent" 224 := ⟨fun w => ⟨by k_is, by k_is, by k_is⟩⟩
theorem bne_not (x y : Str) : (x != y) = !(x == y) := rfl
theorem c_percent {x d ks : Addr} {T : Str} {a : Int} {nl : Bool} {k : Nat} (lx : Lx H x d ks T a nl) (hT : T.length ≤ 1000000) (hd : dp ≤ 700)
    (r : ∀ n, pct (tl T (k + 1)) = some n → ∀ t td H', Tok_ H' t td "op" (.str (mk ((tl T k).take (n + 2)))) k nl → Lx H' x d ks T (k + (n + 2) : Nat) nl → Fram H H' d → R (.ref t) H')
    (e : pct (tl T (k + 1)) = none → X "bad_character" k) :
    Call_OK W dp un H (.ref 224) [.ref x, .int k] R X := by
  ((refine' call_def (dp' := _) (un' := _) (fnAt_of ?ho ?hcd ?a ?b ?c ?d ?ne) (binds_of ?hb) ?hl (Nat.le_refl _) (Nat.le_refl _) ?hr ?body); (case ho => intro w; k_is); (case hcd => intro w; k_is); (case a => rfl); (case b => rfl); (case c => rfl); (case d => rfl); (case ne => decide +kernel); (case hb => first | exact binds0 rfl | exact binds1 fun _ => rfl | exact binds2 fun _ _ => rfl | exact binds3 fun _ _ _ => rfl | exact binds5 fun _ _ _ _ _ => rfl); (case hl => rfl); (case hr => omega))
  walk_at "s"
  walk_at "v"
  refine ss_while (σ := Nat) (fun i => k + 1 ≤ i ∧ pct (tl T (k + 1)) = (pct (tl T i)).map (· + (i - (k + 1)))) (fun i => [("self", .ref x), ("at", .int k), ("end", .int i)]) (fun _ => H) (fun i => (tl T i).length) (k + 1) ⟨Nat.le_refl _, ?_⟩ ⟨rfl, rfl, rfl, trivial⟩ (Ext.refl _) ?_
  · cases pct (tl T (k + 1)) <;> simp
  rintro i ⟨hki, hi⟩
  walk_at "v"
  (((refine' ⟨.own 189, ok_char, meth_inst (Lx.x ?lx) (Lx.d ?lx) ma_char rfl, ?_⟩); (case lx => assumption); (walk_at "v")); ((refine' c_char ?lx ?hT ?hd ?_); (case lx => assumption); (case hT => assumption); (case hd => omega); (walk_at "v")))
  rw [bne_not, lit_pc, eq_lit]
  refine ⟨_, rfl, fun h => ?_, fun h => ?_⟩
  · walk_at "s"
    walk_at "v"
    (((refine' ⟨.own 189, ok_char, meth_inst (Lx.x ?lx) (Lx.d ?lx) ma_char rfl, ?_⟩); (case lx => assumption); (walk_at "v")); ((refine' c_char ?lx ?hT ?hd ?_); (case lx => assumption); (case hT => assumption); (case hd => omega); (walk_at "v")))
    ((refine' ⟨Nat.le_of_ble_eq_true rfl, ?_⟩); (intro _ _); (walk_at "v"))
    rw [any_stop]
    refine ⟨_, rfl, fun h2 => ?_, fun h2 => ?_⟩
    · refine WpF.ext (Ext.new (Ext.refl _) (by assumption)) ?_
      walk_at "s"
      walk_at "v"
      refine ⟨_, _, rfl, e ?_⟩
      rw [hi]
      cases q : tl T i with
      | nil => rfl
      | cons c q' => rw [q] at h2; have : c = 10 := by simpa [onHd] using h2
                     subst this; simp [pct]
    · refine WpF.ext (Ext.new (Ext.refl _) (by assumption)) ?_
      obtain ⟨c, q, hq, a1, a2⟩ : ∃ c q, tl T i = c :: q ∧ c ≠ 37 ∧ c ≠ 10 := by
        cases q : tl T i with
        | nil => rw [q] at h2; cases h2
        | cons c q' => rw [q] at h h2; exact ⟨c, q', rfl, by simpa [onHd] using h, by simpa [onHd] using h2⟩
      have hq1 := tl_cons hq
      walk_at "s"
      walk_at "s"
      walk_at "v"
      walk_at "s"
      refine ⟨i + 1, ⟨by omega, ?_⟩, by rw [hq1, hq]; simp, ⟨rfl, rfl, by simp [setL], trivial⟩, Ext.refl _⟩
      rw [hi, hq, hq1]
      simp only [pct, a1, a2, if_false, Option.map_map]
      congr 1
      funext z
      simp only [Function.comp]
      omega
  · obtain ⟨q, hq⟩ : ∃ q, tl T i = 37 :: q := by
      cases q : tl T i with
      | nil => rw [q] at h; cases h
      | cons c q' => rw [q] at h; have : c = 37 := by simpa [onHd] using h
                     exact ⟨q', by rw [this]⟩
    have hn : pct (tl T (k + 1)) = some (i - (k + 1)) := by rw [hi, hq]; simp [pct]
    walk_at "s"
    walk_at "v"
    refine ⟨.own 196, ok_token, meth_inst lx.x lx.d ma_token rfl, ?_⟩
    walk_at "v"
    ((refine' ⟨_, 297, _, _, _, rfl, Lx.x ?lx, Lx.d ?lx, ?fa, ?l1, ?l2, ?_⟩); (case lx => assumption); (case fa => first | exact fa_text | exact fa_at | exact fa_newline | exact fa_keys); (case l1 => exact rfl); (case l2 => exact rfl); (walk_at "v"))
    refine ⟨T, k, (i : Int) + 1, rfl, rfl, rfl, Nat.le_trans hT (by decide), ?_⟩
    walk_at "v"
    refine c_token (e := (i : Int) + 1) lx (by omega) fun t td H' ht lx' fr => r _ hn t td H' ?_ ?_ fr
    · have e1 : ((i : Int) + 1) = ((i + 1 : Nat) : Int) := by omega
      have e2 : i - (k + 1) + 2 = i + 1 - k := by omega
      rw [e1, slice_nat T (by omega : k ≤ i + 1)] at ht
      rw [e2]; exact ht
    · have e1 : ((i : Int) + 1) = ((k + (i - (k + 1) + 2) : Nat) : Int) := by omega
      rw [e1] at lx'; exact lx'
end

section
variable {W : Wd} {fi : Fi} {dp un : Nat} {loc : Loc} {H : AH} {X : Xs} {R : AV → AH → Prop}

/-! operators -/
noncomputable def O3 : List (List Nat) := [[60, 60, 45], [45, 62, 62], [58, 58, 58]]
noncomputable def O2 : List (List Nat) := O3 ++ [[60, 45], [45, 62], [124, 62], [60, 61], [62, 61], [61, 61], [33, 61], [38, 38], [124, 124], [58, 58], [91, 91], [42, 42]]
noncomputable def O1 : List Nat := [43, 45, 42, 47, 94, 60, 62, 61, 33, 38, 124, 126, 63, 58, 36, 64, 40, 41, 123, 125, 91, 93, 44, 59, 92]
theorem lit_O3 : [Str.ofString "<<-", Str.ofString "->>", Str.ofString ":::"] = O3.map mk := by decide +kernel
theorem lit_O2 : [Str.ofString "<<-", Str.ofString "->>", Str.ofString ":::", Str.ofString "<-", Str.ofString "->", Str.ofString "|>", Str.ofString "<=", Str.ofString ">=", Str.ofString "==", Str.ofString "!=", Str.ofString "&&", Str.ofString "||", Str.ofString "::", Str.ofString "[[", Str.ofString "**"] = O2.map mk := by decide +kernel
theorem lit_O1 : Str.ofString "+-*/^<>=!&|~?:$@(){}[],;\\" = mk O1 := by decide +kernel
theorem any_mk (ys : List (List Nat)) (t : List Nat) : (ys.map mk).any (· == mk t) = decide (t ∈ ys) := by
  induction ys with
  | nil => simp
  | cons y r ih =>
    rw [List.map_cons, List.any_cons, ih, mk_eq]
    by_cases h : y = t
    · subst h; simp
    · simp [h, Ne.symm h]
noncomputable def opT2 (l : List Nat) : List Nat := if l.take 3 ∈ O3 then l.take 3 else l.take 2
noncomputable def opT (l : List Nat) : Option (List Nat) := if opT2 l ∈ O2 then some (opT2 l) else match l with
  | [] => none
  | c :: _ => if c ∈ O1 then some [c] else none
theorem take_len {n : Nat} {l : List Nat} : (l.take n).length ≤ n := List.length_take_le _ _
theorem ok_operator : (Callee.own 231).ok := fun w => by k_is
theorem ma_operator : MethAt 297 "operator" 231 := ⟨fun w => ⟨by k_is, by k_is, by k_is⟩⟩
theorem lit_pow : Str.ofString "**" = mk [42, 42] := by decide +kernel
theorem c_operator {x d ks : Addr} {T : Str} {a : Int} {nl : Bool} {k : Nat} (lx : Lx H x d ks T a nl) (hT : T.length ≤ 1000000) (hd : dp ≤ 700) (hne : tl T k ≠ [])
    (r : ∀ t, opT (tl T k) = some t → ∀ ta td H', Tok_ H' ta td "op" (.str (if t = [42, 42] then "^" else mk t)) k nl → Lx H' x d ks T (k + t.length : Nat) nl → Fram H H' d → R (.ref ta) H')
    (e : opT (tl T k) = none → X "bad_character" k) :
    Call_OK W dp un H (.ref 231) [.ref x, .int k] R X := by
  ((refine' call_def (dp' := _) (un' := _) (fnAt_of ?ho ?hcd ?a ?b ?c ?d ?ne) (binds_of ?hb) ?hl (Nat.le_refl _) (Nat.le_refl _) ?hr ?body); (case ho => intro w; k_is); (case hcd => intro w; k_is); (case a => rfl); (case b => rfl); (case c => rfl); (case d => rfl); (case ne => decide +kernel); (case hb => first | exact binds0 rfl | exact binds1 fun _ => rfl | exact binds2 fun _ _ => rfl | exact binds3 fun _ _ _ => rfl | exact binds5 fun _ _ _ _ _ => rfl); (case hl => rfl); (case hr => omega))
  walk_at "s"
  walk_at "v"
  ((refine' ⟨_, 297, _, _, _, rfl, Lx.x ?lx, Lx.d ?lx, ?fa, ?l1, ?l2, ?_⟩); (case lx => assumption); (case fa => first | exact fa_text | exact fa_at | exact fa_newline | exact fa_keys); (case l1 => exact rfl); (case l2 => exact rfl); (walk_at "v"))
  refine ⟨T, k, (k : Int) + 3, rfl, rfl, rfl, Nat.le_trans hT (by decide), ?_⟩
  have e3 : ((k : Int) + 3) = ((k + 3 : Nat) : Int) := by omega
  have e2 : ((k : Int) + 2) = ((k + 2 : Nat) : Int) := by omega
  rw [e3, slice_nat T (by omega : k ≤ k + 3), Nat.add_sub_cancel_left]
  refine ss_ifK (σ := Unit) (fun _ => True) (fun _ => [("self", .ref x), ("at", .int k), ("text", .str (mk (opT2 (tl T k))))]) (fun _ => H) ?_ (fun _ _ => ?_)
  · walk_at "v"
    ((refine' ⟨Nat.le_of_ble_eq_true rfl, ?_⟩); (intro _ _); (walk_at "v"))
    rw [lit_O3, any_mk]
    refine ⟨_, rfl, fun h => ?_, fun h => ?_⟩
    all_goals refine WpF.ext (Ext.new (Ext.refl _) (by assumption)) ?_
    · have h' : opT2 (tl T k) = (tl T k).take 2 := if_neg (by simpa using h)
      rw [h']
      walk_at "s"
      walk_at "v"
      ((refine' ⟨_, 297, _, _, _, rfl, Lx.x ?lx, Lx.d ?lx, ?fa, ?l1, ?l2, ?_⟩); (case lx => assumption); (case fa => first | exact fa_text | exact fa_at | exact fa_newline | exact fa_keys); (case l1 => exact rfl); (case l2 => exact rfl); (walk_at "v"))
      refine ⟨T, k, (k : Int) + 2, rfl, rfl, rfl, Nat.le_trans hT (by decide), ?_⟩
      rw [e2, slice_nat T (by omega : k ≤ k + 2), Nat.add_sub_cancel_left]
      walk_at "s"
      exact ⟨(), trivial, ⟨rfl, rfl, rfl, trivial⟩, Ext.refl _⟩
    · have h' : opT2 (tl T k) = (tl T k).take 3 := if_pos (by simpa using h)
      rw [h']
      walk_at "s"
      exact ⟨(), trivial, ⟨rfl, rfl, rfl, trivial⟩, Ext.refl _⟩
  refine ss_ifK (σ := List Nat) (fun t => opT (tl T k) = some t ∧ t.length ≤ 3) (fun t => [("self", .ref x), ("at", .int k), ("text", .str (mk t))]) (fun _ => H) ?_ (fun t ht => ?_)
  · walk_at "v"
    ((refine' ⟨Nat.le_of_ble_eq_true rfl, ?_⟩); (intro _ _); (walk_at "v"))
    rw [lit_O2, any_mk]
    refine ⟨_, rfl, fun h => ?_, fun h => ?_⟩
    all_goals refine WpF.ext (Ext.new (Ext.refl _) (by assumption)) ?_
    · have h1 : ¬ opT2 (tl T k) ∈ O2 := by simpa using h
      obtain ⟨c, q, hq⟩ : ∃ c q, tl T k = c :: q := by
        cases q : tl T k with
        | nil => exact absurd q hne
        | cons c q' => exact ⟨c, q', rfl⟩
      have h' : opT (tl T k) = if c ∈ O1 then some [c] else none := by
        unfold opT
        rw [if_neg h1, hq]
      walk_at "s"
      walk_at "v"
      (((refine' ⟨.own 189, ok_char, meth_inst (Lx.x ?lx) (Lx.d ?lx) ma_char rfl, ?_⟩); (case lx => assumption); (walk_at "v")); ((refine' c_char ?lx ?hT ?hd ?_); (case lx => assumption); (case hT => assumption); (case hd => omega); (walk_at "v")))
      walk_at "s"
      walk_at "v"
      rw [lit_O1]
      have hc : Txt.contains (mk O1) (sg (tl T k)) = decide (c ∈ O1) := by rw [hq, contains_sg]
      rw [hc]
      refine ⟨_, rfl, fun h2 => ?_, fun h2 => ?_⟩
      · walk_at "s"
        walk_at "v"
        exact ⟨_, _, rfl, e (by rw [h', if_neg (by simpa using h2)])⟩
      · walk_at "s"
        walk_at "s"
        exact ⟨[c], ⟨by rw [h', if_pos (by simpa using h2)], by simp⟩, ⟨rfl, rfl, by rw [hq]; rfl, trivial⟩, Ext.refl _⟩
    · have h1 : opT2 (tl T k) ∈ O2 := by simpa using h
      walk_at "s"
      refine ⟨opT2 (tl T k), ⟨if_pos h1, ?_⟩, ⟨rfl, rfl, rfl, trivial⟩, Ext.refl _⟩
      unfold opT2; split
      · exact take_len
      · exact Nat.le_trans take_len (by decide)
  obtain ⟨ht, hl⟩ := ht
  have rt := r t ht
  walk_at "s"
  walk_at "v"
  rw [lit_pow, mk_eq]
  refine ⟨_, rfl, fun h => ?_, fun h => ?_⟩
  · have h1 : t = [42, 42] := by simpa using h
    rw [if_pos h1] at rt
    walk_at "s"
    walk_at "v"
    ((refine' ⟨.own 196, ok_token, meth_inst (Lx.x ?lx) (Lx.d ?lx) ma_token rfl, ?_⟩); (case lx => assumption); (walk_at "v"); (refine' c_token ?lx ?hd ?_); (case lx => assumption); (case hd => omega))
    intro ta td H' ht lx' fr
    refine rt ta td H' ht ?_ fr
    subst h1
    exact lx'
  · have h1 : t ≠ [42, 42] := by simpa using h
    rw [if_neg h1] at rt
    walk_at "s"
    walk_at "s"
    walk_at "v"
    refine ⟨.own 196, ok_token, meth_inst lx.x lx.d ma_token rfl, ?_⟩
    walk_at "v"
    refine k_lenS (by rw [mk_len]; omega) ?_
    walk_at "v"
    refine c_token lx (by omega) fun ta td H' ht lx' fr => rt ta td H' ht ?_ fr
    rw [mk_len] at lx'
    exact lx'
end

section
variable {W : Wd} {fi : Fi} {dp un : Nat} {loc : Loc} {H : AH} {X : Xs} {R : AV → AH → Prop}

noncomputable def hexT (c : Nat) : Int := if 48 ≤ c ∧ c ≤ 57 then (c : Int) - 48 else if 97 ≤ c ∧ c ≤ 102 then (c : Int) - 87 else if 65 ≤ c ∧ c ≤ 70 then (c : Int) - 55 else -1
noncomputable def hexV : List Nat → Int
  | [] => -1
  | c :: _ => hexT c
noncomputable def asc : List Nat → Bool
  | [] => true
  | c :: _ => decide (c < 128)
theorem hex_tab : ∀ c < 128, Txt.find (Str.ofString "0123456789abcdef") (Txt.lower (mk [c])) = hexT c := by decide +kernel
theorem c_hex_value {l : List Nat} (hl : asc l = true) (hd : dp ≤ 900) (r : R (.int (hexV l)) H) : Call_OK W dp un H (.ref 153) [.str (sg l)] R X := by
  ((refine' call_def (dp' := _) (un' := _) (fnAt_of ?ho ?hcd ?a ?b ?c ?d ?ne) (binds_of ?hb) ?hl (Nat.le_refl _) (Nat.le_refl _) ?hr ?body); (case ho => intro w; k_is); (case hcd => intro w; k_is); (case a => rfl); (case b => rfl); (case c => rfl); (case d => rfl); (case ne => decide +kernel); (case hb => first | exact binds0 rfl | exact binds1 fun _ => rfl | exact binds2 fun _ _ => rfl | exact binds3 fun _ _ _ => rfl | exact binds5 fun _ _ _ _ _ => rfl); (case hl => rfl); (case hr => omega))
  walk_at "s"
  walk_at "v"
  rw [lit_emp, eq_emp]
  refine ⟨_, rfl, fun h => ?_, fun h => ?_⟩
  · walk_at "s"
    walk_at "v"
    cases l with
    | nil => exact r
    | cons c q => cases h
  · walk_at "s"
    walk_at "s"
    walk_at "v"
    (first | ((refine' ⟨.bi "str.find", trivial, m_find, ?_⟩); (walk_at "v")) | ((refine' ⟨.bi "str.lower", trivial, m_lower, ?_⟩); (walk_at "v")) | ((refine' ⟨.bi "str.lstrip", trivial, m_lstrip, ?_⟩); (walk_at "v")) | ((refine' ⟨.bi "str.join", trivial, m_join, ?_⟩); (walk_at "v")))
    (first | ((refine' ⟨.bi "str.find", trivial, m_find, ?_⟩); (walk_at "v")) | ((refine' ⟨.bi "str.lower", trivial, m_lower, ?_⟩); (walk_at "v")) | ((refine' ⟨.bi "str.lstrip", trivial, m_lstrip, ?_⟩); (walk_at "v")) | ((refine' ⟨.bi "str.join", trivial, m_join, ?_⟩); (walk_at "v")))
    cases l with
    | nil => cases h
    | cons c q =>
    refine k_lower (by show (mk [c]).length ≤ _; rw [mk_len]; simp) ?_
    walk_at "v"
    refine k_find ?_
    have := hex_tab c (by simpa [asc] using hl)
    rw [show sg (c :: q) = mk [c] from rfl, this]
    exact r

noncomputable def simpA : List Nat := [110, 116, 114, 97, 98, 102, 118, 92, 34, 39, 96, 32, 10]
noncomputable def simpE (c : Nat) : List Nat := if c = 110 then [10] else if c = 116 then [9] else if c = 114 then [13] else if c = 97 then [7] else if c = 98 then [8] else if c = 102 then [12] else if c = 118 then [11]
  else if c = 92 ∨ c = 34 ∨ c = 39 ∨ c = 96 ∨ c = 10 then [c] else []
theorem simp_tab : ∀ c < 128, (Txt.find (Str.ofString "ntrabfv\\\"'` \n") (mk [c]) < 0 → simpE c = []) ∧ (0 ≤ Txt.find (Str.ofString "ntrabfv\\\"'` \n") (mk [c]) → c ≠ 32 → Txt.find (Str.ofString "ntrabfv\\\"'` \n") (mk [c]) < 13 ∧
   Txt.item (Str.ofString "\n\t\r\x07\x08\x0c\x0b\\\"'` \n") (Txt.find (Str.ofString "ntrabfv\\\"'` \n") (mk [c])) = mk (simpE c)) := by decide +kernel
theorem simp32 : simpE 32 = [] := rfl
theorem c_simple_escape {c : Nat} {q : List Nat} (hl : c < 128) (hd : dp ≤ 900) (r : R (.str (mk (simpE c))) H) : Call_OK W dp un H (.ref 160) [.str (sg (c :: q))] R X := by
  ((refine' call_def (dp' := _) (un' := _) (fnAt_of ?ho ?hcd ?a ?b ?c ?d ?ne) (binds_of ?hb) ?hl (Nat.le_refl _) (Nat.le_refl _) ?hr ?body); (case ho => intro w; k_is); (case hcd => intro w; k_is); (case a => rfl); (case b => rfl); (case c => rfl); (case d => rfl); (case ne => decide +kernel); (case hb => first | exact binds0 rfl | exact binds1 fun _ => rfl | exact binds2 fun _ _ => rfl | exact binds3 fun _ _ _ => rfl | exact binds5 fun _ _ _ _ _ => rfl); (case hl => rfl); (case hr => omega))
  walk_at "s"
  walk_at "v"
  rw [lit_emp, eq_emp]
  refine ⟨_, rfl, fun h => (by cases h), fun h => ?_⟩
  walk_at "s"
  walk_at "s"
  walk_at "v"
  (first | ((refine' ⟨.bi "str.find", trivial, m_find, ?_⟩); (walk_at "v")) | ((refine' ⟨.bi "str.lower", trivial, m_lower, ?_⟩); (walk_at "v")) | ((refine' ⟨.bi "str.lstrip", trivial, m_lstrip, ?_⟩); (walk_at "v")) | ((refine' ⟨.bi "str.join", trivial, m_join, ?_⟩); (walk_at "v")))
  refine k_find ?_
  walk_at "s"
  walk_at "v"
  refine ⟨_, rfl, ?_⟩
  (apply jTst; focus (intro _))
  · walk_at "v"
    exact ⟨_, rfl, rfl, rfl⟩
  have tab := simp_tab c hl
  have e32 : (sg (c :: q) == Str.ofString " ") = decide (c = 32) := by
    rw [show Str.ofString " " = mk [32] by decide +kernel, show sg (c :: q) = mk [c] from rfl, mk_eq]; simp
  rw [e32, show sg (c :: q) = mk [c] from rfl]
  refine ⟨fun h => ?_, fun h => ?_⟩
  · walk_at "s"
    walk_at "v"
    have : simpE c = [] := by
      by_cases h0 : c = 32
      · subst h0; rfl
      · exact tab.1 (by simpa [h0] using h)
    rw [this] at r; exact r
  · have h1 : ¬ (Txt.find (Str.ofString "ntrabfv\\\"'` \n") (mk [c]) < 0) ∧ c ≠ 32 := by simpa using h
    obtain ⟨t1, t2⟩ := tab.2 (by omega) h1.2
    walk_at "s"
    walk_at "s"
    walk_at "v"
    refine sub_str (by omega) (by rw [show (Str.ofString "\n\t\r\x07\x08\x0c\x0b\\\"'` \n").length = 13 by decide +kernel]; omega) (by decide +kernel) ?_ rfl
    rw [t2]; exact r

noncomputable def dval (l : List Nat) : Int := l.foldl (fun (v : Int) (c : Nat) => v * 10 + (c : Int) - 48) (0 : Int)
theorem c_digits_value {l : List Nat} (hd : dp ≤ 900) (r : R (.int (dval l)) H) : Call_OK W dp un H (.ref 167) [.str (mk l)] R X := by
  ((refine' call_def (dp' := _) (un' := _) (fnAt_of ?ho ?hcd ?a ?b ?c ?d ?ne) (binds_of ?hb) ?hl (Nat.le_refl _) (Nat.le_refl _) ?hr ?body); (case ho => intro w; k_is); (case hcd => intro w; k_is); (case a => rfl); (case b => rfl); (case c => rfl); (case d => rfl); (case ne => decide +kernel); (case hb => first | exact binds0 rfl | exact binds1 fun _ => rfl | exact binds2 fun _ _ => rfl | exact binds3 fun _ _ _ => rfl | exact binds5 fun _ _ _ _ _ => rfl); (case hl => rfl); (case hr => omega))
  walk_at "s"
  walk_at "v"
  refine ss_forG (σ := Int) rfl (fun _ _ => rfl) ?_
  walk_at "v"
  refine ⟨l.map (fun c => .str (mk [c])), H, fun i (v : Int) => v = dval (l.take i), fun v => [("value", .int v)], fun _ => H, 0, .inl ⟨_, rfl, by rw [mk_toList], rfl⟩, rfl, ⟨rfl, trivial⟩, Ext.refl _, ?_, ?_⟩
  · rintro i v av rfl hav
    obtain ⟨c, hc, rfl⟩ : ∃ c, l[i]? = some c ∧ av = .str (mk [c]) := by
      rw [List.getElem?_map] at hav
      cases e : l[i]? with
      | none => rw [e] at hav; cases hav
      | some c => rw [e] at hav; cases hav; exact ⟨c, rfl, rfl⟩
    walk_at "s"
    walk_at "v"
    refine k_ord (by rw [mk_len]; rfl) ?_
    walk_at "v"
    walk_at "s"
    refine ⟨_, ?_, ⟨rfl, trivial⟩, Ext.refl _⟩
    dsimp only
    rw [List.take_add_one, hc]
    simp [dval, mk]
  · rintro v rfl
    rw [List.length_map, List.take_length]
    walk_at "s"
    walk_at "v"
    exact r
end

section
variable {W : Wd} {fi : Fi} {dp un : Nat} {loc : Loc} {H : AH} {X : Xs} {R : AV → AH → Prop}

noncomputable def vF (kind : Str) (li : Addr) : List (Str × AV) := [("kind", .str kind), ("items", .ref li), ("attrs", .none), ("shared", .bool false), ("loose", .bool false)]
theorem cls_vec : ClsOK 78 68 := ⟨fun w => ⟨by k_is, by k_is, by k_is⟩⟩
theorem sv_kind : SetAt 78 "kind" := ⟨fun w => ⟨by k_is, by k_is, by k_is, by k_is⟩⟩
theorem sv_items : SetAt 78 "items" := ⟨fun w => ⟨by k_is, by k_is, by k_is, by k_is⟩⟩
theorem sv_attrs : SetAt 78 "attrs" := ⟨fun w => ⟨by k_is, by k_is, by k_is, by k_is⟩⟩
theorem sv_shared : SetAt 78 "shared" := ⟨fun w => ⟨by k_is, by k_is, by k_is, by k_is⟩⟩
theorem sv_loose : SetAt 78 "loose" := ⟨fun w => ⟨by k_is, by k_is, by k_is, by k_is⟩⟩
theorem c_Vector {kind : Str} {li : Addr} (hd : dp ≤ 900)
    (r : ∀ v vd H', H v = none → H vd = none → v ≠ vd → H' = upd (upd H vd (.dict (vF kind li))) v (.inst 78 vd) → R (.ref v) H') :
    Call_OK W dp un H (.ref 78) [.str kind, .ref li] R X := by
  refine' call_cls_ok cls_vec (dp' := _) (un' := _) (binds := fun x => [("self", .ref x), ("kind", .str kind), ("items", .ref li), ("attrs", .none)]) (fnAt_of ?ho ?hcd ?a ?b ?c ?d ?ne) ?hb ?hl (Nat.le_refl _) (Nat.le_refl _) ?hr ?body
  case ho => intro w; k_is
  case hcd => intro w; k_is
  case a => rfl
  case b => rfl
  case c => rfl
  case d => rfl
  case ne => decide +kernel
  case hb =>
    intro x vs s hv hK
    obtain ⟨v1, v2, v3, rfl, h1, h2, h3⟩ := vrs3 hv
    exact ⟨[("self", v1), ("kind", v2), ("items", v3), ("attrs", .none)], binds_K (show (Mine.hd.heap_39 W.w.params).In s.heap from hK) rfl (by k_is) rfl rfl rfl, ⟨rfl, h1⟩, ⟨rfl, h2⟩, ⟨rfl, h3⟩, ⟨rfl, rfl⟩, trivial⟩
  case hl => intro x; rfl
  case hr => omega
  intro x d hx hd' hne
  have hne' : d ≠ x := Ne.symm hne
  walk_at "s"
  walk_at "v"
  refine put_ok (x := x) (C := 78) (d := d) (fs := []) (by rw [upd_same]) (by rw [upd_ne _ _ hne', upd_same]) sv_kind (by simp) ?_
  walk_at "s"
  walk_at "v"
  refine put_ok (x := x) (C := 78) (d := d) (fs := [("kind", .str kind)]) (by rw [upd_ne _ _ hne, upd_same]) (by rw [upd_same]; rfl) sv_items (by simp) ?_
  walk_at "s"
  walk_at "v"
  refine put_ok (x := x) (C := 78) (d := d) (fs := [("kind", .str kind), ("items", .ref li)]) (by rw [upd_upd, upd_ne _ _ hne, upd_same]) (by rw [upd_same]; rfl) sv_attrs (by simp) ?_
  walk_at "s"
  walk_at "v"
  refine put_ok (x := x) (C := 78) (d := d) (fs := [("kind", .str kind), ("items", .ref li), ("attrs", .none)]) (by rw [upd_upd, upd_upd, upd_ne _ _ hne, upd_same]) (by rw [upd_same]; rfl) sv_shared (by simp) ?_
  walk_at "s"
  walk_at "v"
  refine put_ok (x := x) (C := 78) (d := d) (fs := [("kind", .str kind), ("items", .ref li), ("attrs", .none), ("shared", .bool false)]) (by rw [upd_upd, upd_upd, upd_upd, upd_ne _ _ hne, upd_same]) (by rw [upd_same]; rfl) sv_loose (by simp) ?_
  walk_at "s"
  refine ⟨trivial, r x d _ hx hd' hne ?_⟩
  rw [upd_upd, upd_upd, upd_upd, upd_upd]
  funext b
  unfold upd
  by_cases h1 : b = d
  · subst h1; rw [if_pos rfl, if_neg hne', if_pos rfl]; rfl
  · rw [if_neg h1, if_neg h1, if_neg h1]

inductive NV where
  | whole (n : Int)
  | num (n d : Int)
noncomputable def NumAt (H : AH) (v : Addr) : NV → Prop
  | .whole n => ∃ vd li, H v = some (.inst 78 vd) ∧ H vd = some (.dict (vF "integer" li)) ∧ H li = some (.lst [.int n])
  | .num n d => ∃ vd li tp, H v = some (.inst 78 vd) ∧ H vd = some (.dict (vF "double" li)) ∧ H li = some (.lst [.ref tp]) ∧ H tp = some (.tup [.int n, .int d])
theorem NumAt.fram {H H' : AH} {v x d ks : Addr} {T : Str} {a : Int} {nl : Bool} (lx : Lx H x d ks T a nl) (f : Fram H H' d) {z : NV} (h : NumAt H v z) : NumAt H' v z := by
  have g : ∀ {p : Addr} {o : AO}, H p = some o → o ≠ .dict (lxF T a nl ks) → H' p = some o := fun e ne => f _ _ (fun q => by subst q; rw [lx.d] at e; cases e; exact ne rfl) e
  cases z with
  | whole n => obtain ⟨vd, li, h1, h2, h3⟩ := h; exact ⟨vd, li, g h1 (fun q => nomatch q), g h2 (fun q => by cases q), g h3 (fun q => nomatch q)⟩
  | num n m => obtain ⟨vd, li, tp, h1, h2, h3, h4⟩ := h; exact ⟨vd, li, tp, g h1 (fun q => nomatch q), g h2 (fun q => by cases q), g h3 (fun q => nomatch q), g h4 (fun q => nomatch q)⟩
theorem c_whole {n : Int} (hd : dp ≤ 800) (r : ∀ v H', NumAt H' v (.whole n) → Ext H H' → R (.ref v) H') : Call_OK W dp un H (.ref 89) [.int n] R X := by
  ((refine' call_def (dp' := _) (un' := _) (fnAt_of ?ho ?hcd ?a ?b ?c ?d ?ne) (binds_of ?hb) ?hl (Nat.le_refl _) (Nat.le_refl _) ?hr ?body); (case ho => intro w; k_is); (case hcd => intro w; k_is); (case a => rfl); (case b => rfl); (case c => rfl); (case d => rfl); (case ne => decide +kernel); (case hb => first | exact binds0 rfl | exact binds1 fun _ => rfl | exact binds2 fun _ _ => rfl | exact binds3 fun _ _ _ => rfl | exact binds5 fun _ _ _ _ _ => rfl); (case hl => rfl); (case hr => omega))
  walk_at "s"
  walk_at "v"
  refine ⟨Nat.le_of_ble_eq_true rfl, fun li hli => ?_⟩
  walk_at "v"
  refine c_Vector (by omega) fun v vd H' hv hvd hne hH => ?_
  have hlv : li ≠ vd := fun q => by subst q; rw [upd_same] at hvd; cases hvd
  have hlv2 : li ≠ v := fun q => by subst q; rw [upd_same] at hv; cases hv
  subst hH
  refine r v _ ⟨vd, li, upd_same _ _ _, by rw [upd_ne _ _ (Ne.symm hne), upd_same], by rw [upd_ne _ _ hlv2, upd_ne _ _ hlv, upd_same]⟩ ?_
  exact Ext.new (Ext.new (Ext.new (Ext.refl _) hli) hvd) (by rw [upd_ne _ _ hne]; exact hv)

theorem c_number {n d : Nat} (hn : n < 2 ^ 62) (hd0 : 0 < d) (hd1 : d < 2 ^ 62) (hd : dp ≤ 800) (r : ∀ v H', NumAt H' v (.num (n / Nat.gcd n d : Nat) (d / Nat.gcd n d : Nat)) → Ext H H' → R (.ref v) H') : Call_OK W dp un H (.ref 97) [.int n, .int d] R X := by
  refine' call_def (binds := [("n", .int n), ("d", .int d)]) (dp' := _) (un' := _) (fnAt_of ?ho ?hcd ?a ?b ?c ?d ?ne) ?hb ?hl (Nat.le_refl _) (Nat.le_refl _) ?hr ?body
  case ho => intro w; k_is
  case hcd => intro w; k_is
  case a => rfl
  case b => rfl
  case c => rfl
  case d => rfl
  case ne => decide +kernel
  case hl => rfl
  case hr => omega
  case hb =>
    intro vs s hv hK
    obtain ⟨v1, v2, rfl, h1, h2⟩ := vrs2 hv
    exact ⟨[("n", v1), ("d", v2)], binds_K (show (Mine.hd.heap_39 W.w.params).In s.heap from hK) rfl (by k_is) rfl rfl rfl, ⟨rfl, h1⟩, ⟨rfl, h2⟩, trivial⟩
  walk_at "s"
  walk_at "v"
  rw [if_neg (by omega : ¬ ((n : Int) < 0))]
  walk_at "s"
  walk_at "v"
  refine ss_while (σ := Nat × Nat) (fun st => Nat.gcd st.1 st.2 = Nat.gcd n d) (fun st => [("n", .int n), ("d", .int d), ("a", .int st.1), ("b", .int st.2)]) (fun _ => H) (fun st => st.2) (n, d) rfl ⟨rfl, rfl, rfl, rfl, trivial⟩ (Ext.refl _) ?_
  rintro ⟨a, b⟩ hg
  dsimp only at hg ⊢
  walk_at "v"
  refine ⟨_, rfl, fun h => ?_, fun h => ?_⟩
  · have hb : 0 < b := by simpa using h
    have hb' : (b : Int) ≠ 0 := by omega
    walk_at "s"
    walk_at "v"
    refine ⟨Nat.le_of_ble_eq_true rfl, fun tp htp => ?_⟩
    refine ⟨tp, _, rfl, upd_same _ _ _, rfl, ?_⟩
    rw [← Int.ofNat_fmod]
    walk_at "s"
    refine ⟨(b, a % b), ?_, Nat.mod_lt _ hb, ⟨rfl, rfl, rfl, rfl, trivial⟩, Ext.new (Ext.refl _) htp⟩
    dsimp only
    rw [← hg, Nat.gcd_comm a b, Nat.gcd_rec b a, Nat.gcd_comm]
  · have hb : b = 0 := by simpa using h
    subst hb
    rw [Nat.gcd_zero_right] at hg
    subst hg
    have g0 : 0 < Nat.gcd n d := Nat.gcd_pos_of_pos_right _ hd0
    have g0' : ((Nat.gcd n d : Nat) : Int) ≠ 0 := by omega
    walk_at "s"
    have gl : ((Nat.gcd n d : Nat) : Int) < 2 ^ 62 := by have := Nat.gcd_le_right n hd0; omega
    walk_at "v"
    rw [← Int.ofNat_fdiv, ← Int.ofNat_fdiv]
    refine ⟨Nat.le_of_ble_eq_true rfl, fun tp htp => ?_⟩
    walk_at "v"
    refine ⟨Nat.le_of_ble_eq_true rfl, fun li hli => ?_⟩
    walk_at "v"
    refine c_Vector (by omega) fun v vd H' hv hvd hne hH => ?_
    have hlv : li ≠ vd := fun q => by subst q; rw [upd_same] at hvd; cases hvd
    have hlv2 : li ≠ v := fun q => by subst q; rw [upd_same] at hv; cases hv
    have htl : tp ≠ li := fun q => by subst q; rw [upd_same] at hli; cases hli
    have htv : tp ≠ vd := fun q => by subst q; rw [upd_ne _ _ htl, upd_same] at hvd; cases hvd
    have htv2 : tp ≠ v := fun q => by subst q; rw [upd_ne _ _ htl, upd_same] at hv; cases hv
    subst hH
    refine r v _ ⟨vd, li, tp, upd_same _ _ _, by rw [upd_ne _ _ (Ne.symm hne), upd_same], by rw [upd_ne _ _ hlv2, upd_ne _ _ hlv, upd_same], by rw [upd_ne _ _ htv2, upd_ne _ _ htv, upd_ne _ _ htl, upd_same]⟩ ?_
    exact Ext.new (Ext.new (Ext.new (Ext.new (Ext.refl _) htp) hli) hvd) (by rw [upd_ne _ _ hne]; exact hv)
end

section
variable {W : Wd} {fi : Fi} {dp un : Nat} {loc : Loc} {H : AH} {X : Xs} {R : AV → AH → Prop}

theorem Lx.ext {H' : AH} {x d ks : Addr} {T : Str} {a : Int} {nl : Bool} (h : Lx H x d ks T a nl) (e : Ext H H') : Lx H' x d ks T a nl := ⟨e _ _ h.x, e _ _ h.d, e _ _ h.ks⟩
theorem Fram.ofExt {H H' : AH} (e : Ext H H') (d : Addr) : Fram H H' d := fun a o _ h => e a o h

theorem lit_i : Str.ofString "i" = mk [105] := by decide +kernel
theorem lit_L : Str.ofString "L" = mk [76] := by decide +kernel
noncomputable def numV (n d : Nat) (L : Bool) : NV := if L = true ∧ n % d = 0 ∧ n / d ≤ 2147483647 then .whole (n / d : Nat) else .num (n / Nat.gcd n d : Nat) (d / Nat.gcd n d : Nat)
theorem ok_number_token : (Callee.own 266).ok := fun w => by k_is
theorem ma_number_token : MethAt 297 "number_token" 266 := ⟨fun w => ⟨by k_is, by k_is, by k_is⟩⟩
theorem c_number_token {x d' ks : Addr} {T : Str} {a : Int} {nl : Bool} {k e n d : Nat} (lx : Lx H x d' ks T a nl) (hT : T.length ≤ 1000000) (hd : dp ≤ 600) (hn : n < 2 ^ 62) (hd0 : 0 < d) (hd1 : d < 2 ^ 62)
    (r : onHd (fun c => c == 105) (tl T e) = false → ∀ t td v H', Tok_ H' t td "num" (.ref v) k nl → NumAt H' v (numV n d (onHd (fun c => c == 76) (tl T e))) → Lx H' x d' ks T (e + (if onHd (fun c => c == 76) (tl T e) then 1 else 0) : Nat) nl → Fram H H' d' → R (.ref t) H')
    (er : onHd (fun c => c == 105) (tl T e) = true → X "bad_number" k) :
    Call_OK W dp un H (.ref 266) [.ref x, .int n, .int d, .int k, .int e] R X := by
  ((refine' call_def (dp' := _) (un' := _) (fnAt_of ?ho ?hcd ?a ?b ?c ?d ?ne) (binds_of ?hb) ?hl (Nat.le_refl _) (Nat.le_refl _) ?hr ?body); (case ho => intro w; k_is); (case hcd => intro w; k_is); (case a => rfl); (case b => rfl); (case c => rfl); (case d => rfl); (case ne => decide +kernel); (case hb => first | exact binds0 rfl | exact binds1 fun _ => rfl | exact binds2 fun _ _ => rfl | exact binds3 fun _ _ _ => rfl | exact binds5 fun _ _ _ _ _ => rfl); (case hl => rfl); (case hr => omega))
  walk_at "s"
  walk_at "v"
  (((refine' ⟨.own 189, ok_char, meth_inst (Lx.x ?lx) (Lx.d ?lx) ma_char rfl, ?_⟩); (case lx => assumption); (walk_at "v")); ((refine' c_char ?lx ?hT ?hd ?_); (case lx => assumption); (case hT => assumption); (case hd => omega); (walk_at "v")))
  rw [lit_i, eq_lit]
  refine ⟨_, rfl, fun h => ?_, fun h => ?_⟩
  · walk_at "s"
    walk_at "v"
    exact ⟨_, _, rfl, er h⟩
  have r' := r h
  walk_at "s"
  walk_at "s"
  walk_at "v"
  (((refine' ⟨.own 189, ok_char, meth_inst (Lx.x ?lx) (Lx.d ?lx) ma_char rfl, ?_⟩); (case lx => assumption); (walk_at "v")); ((refine' c_char ?lx ?hT ?hd ?_); (case lx => assumption); (case hT => assumption); (case hd => omega); (walk_at "v")))
  rw [bne_not, lit_L, eq_lit]
  refine ⟨_, rfl, fun hL => ?_, fun hL => ?_⟩
  · have hL' : onHd (fun c => c == 76) (tl T e) = false := by simpa using hL
    rw [hL'] at r'
    walk_at "s"
    walk_at "v"
    refine ⟨.own 196, ok_token, meth_inst lx.x lx.d ma_token rfl, ?_⟩
    walk_at "v"
    refine c_number hn hd0 hd1 (by omega) fun v H1 hv ext => ?_
    walk_at "v"
    refine c_token (lx.ext ext) (by omega) fun t td H' ht lx' fr => ?_
    refine r' t td v H' ht ?_ lx' ((Fram.ofExt ext _).trans fr)
    rw [show numV n d false = .num (n / Nat.gcd n d : Nat) (d / Nat.gcd n d : Nat) from if_neg (by simp)]
    exact hv.fram (lx.ext ext) fr
  have hL' : onHd (fun c => c == 76) (tl T e) = true := by simpa using hL
  rw [hL'] at r'
  have hdz : (d : Int) ≠ 0 := by omega
  walk_at "s"
  walk_at "s"
  walk_at "v"
  rw [← Int.ofNat_fmod]
  refine ⟨_, rfl, ?_⟩
  (apply jTst; focus (intro _))
  · walk_at "v"
    rw [← Int.ofNat_fdiv]
    exact ⟨_, rfl, rfl, rfl⟩
  refine ⟨fun hc => ?_, fun hc => ?_⟩
  · have hc' : n % d = 0 ∧ n / d ≤ 2147483647 := by
      simp only [Bool.and_eq_true, beq_iff_eq, decide_eq_true_eq] at hc
      omega
    rw [show numV n d true = .whole (n / d : Nat) from if_pos ⟨rfl, hc'⟩] at r'
    walk_at "s"
    walk_at "v"
    refine ⟨.own 196, ok_token, meth_inst lx.x lx.d ma_token rfl, ?_⟩
    walk_at "v"
    rw [← Int.ofNat_fdiv]
    refine c_whole (by omega) fun v H1 hv ext => ?_
    walk_at "v"
    exact c_token (lx.ext ext) (by omega) fun t td H' ht lx' fr => r' t td v H' ht (hv.fram (lx.ext ext) fr) lx' ((Fram.ofExt ext _).trans fr)
  · have hc' : ¬ (n % d = 0 ∧ n / d ≤ 2147483647) := by
      simp only [Bool.and_eq_false_iff, beq_eq_false_iff_ne, decide_eq_false_iff_not] at hc
      omega
    rw [show numV n d true = .num (n / Nat.gcd n d : Nat) (d / Nat.gcd n d : Nat) from if_neg (fun q => hc' q.2)] at r'
    walk_at "s"
    walk_at "s"
    walk_at "v"
    refine ⟨.own 196, ok_token, meth_inst lx.x lx.d ma_token rfl, ?_⟩
    walk_at "v"
    refine c_number hn hd0 hd1 (by omega) fun v H1 hv ext => ?_
    walk_at "v"
    exact c_token (lx.ext ext) (by omega) fun t td H' ht lx' fr => r' t td v H' ht (hv.fram (lx.ext ext) fr) lx' ((Fram.ofExt ext _).trans fr)

noncomputable def sgn (l : List Nat) : Nat := if onHd (fun c => c == 45) l = true ∨ onHd (fun c => c == 43) l = true then 1 else 0
noncomputable def zs (l : List Nat) : List Nat := (Txt.lstripChars (mk l) "0").cps.toList
noncomputable def expD (l : List Nat) : List Nat := (l.drop (sgn l)).takeWhile isD
noncomputable def expo (l : List Nat) : Option (Int × Nat) := if expD l = [] ∨ (zs (expD l)).length > 4 ∨ dval (zs (expD l)) > 4096 then none
  else some (if onHd (fun c => c == 45) l = true then 0 - dval (zs (expD l)) else dval (zs (expD l)), sgn l + (expD l).length)
theorem lit_min : Str.ofString "-" = mk [45] := by decide +kernel
theorem lit_plus : Str.ofString "+" = mk [43] := by decide +kernel
theorem ok_exponent : (Callee.own 252).ok := fun w => by k_is
theorem ma_exponent : MethAt 297 "exponent" 252 := ⟨fun w => ⟨by k_is, by k_is, by k_is⟩⟩
theorem c_exponent {x d ks : Addr} {T : Str} {a : Int} {nl : Bool} {k i : Nat} (lx : Lx H x d ks T a nl) (hT : T.length ≤ 1000000) (hd : dp ≤ 600)
    (r : ∀ p n, expo (tl T i) = some (p, n) → ∀ t, H t = none → R (.ref t) (upd H t (.tup [.int p, .int (i + n : Nat)])))
    (er : expo (tl T i) = none → X "bad_number" k) :
    Call_OK W dp un H (.ref 252) [.ref x, .int k, .int i] R X := by
  ((refine' call_def (dp' := _) (un' := _) (fnAt_of ?ho ?hcd ?a ?b ?c ?d ?ne) (binds_of ?hb) ?hl (Nat.le_refl _) (Nat.le_refl _) ?hr ?body); (case ho => intro w; k_is); (case hcd => intro w; k_is); (case a => rfl); (case b => rfl); (case c => rfl); (case d => rfl); (case ne => decide +kernel); (case hb => first | exact binds0 rfl | exact binds1 fun _ => rfl | exact binds2 fun _ _ => rfl | exact binds3 fun _ _ _ => rfl | exact binds5 fun _ _ _ _ _ => rfl); (case hl => rfl); (case hr => omega))
  walk_at "s"
  walk_at "v"
  (((refine' ⟨.own 189, ok_char, meth_inst (Lx.x ?lx) (Lx.d ?lx) ma_char rfl, ?_⟩); (case lx => assumption); (walk_at "v")); ((refine' c_char ?lx ?hT ?hd ?_); (case lx => assumption); (case hT => assumption); (case hd => omega); (walk_at "v")))
  rw [lit_min, eq_lit]
  refine ss_ifK (σ := Unit) (fun _ => True) (fun _ => [("self", .ref x), ("at", .int k), ("index", .int (i + sgn (tl T i) : Nat)), ("minus", .bool (onHd (fun c => c == 45) (tl T i)))]) (fun _ => H) ?_ (fun _ _ => ?_)
  · walk_at "v"
    refine ⟨_, rfl, ?_⟩
    (apply jTst; focus (intro _))
    · walk_at "v"
      (((refine' ⟨.own 189, ok_char, meth_inst (Lx.x ?lx) (Lx.d ?lx) ma_char rfl, ?_⟩); (case lx => assumption); (walk_at "v")); ((refine' c_char ?lx ?hT ?hd ?_); (case lx => assumption); (case hT => assumption); (case hd => omega); (walk_at "v")))
      rw [lit_plus, eq_lit]
      exact ⟨_, rfl, rfl, rfl⟩
    refine ⟨fun h => ?_, fun h => ?_⟩
    · have hs : sgn (tl T i) = 1 := if_pos (by simpa using h)
      rw [hs]
      walk_at "s"
      walk_at "v"
      walk_at "s"
      exact ⟨(), trivial, ⟨rfl, rfl, rfl, rfl, trivial⟩, Ext.refl _⟩
    · have hs : sgn (tl T i) = 0 := if_neg (by simpa using h)
      rw [hs]
      walk_at "s"
      exact ⟨(), trivial, ⟨rfl, rfl, rfl, rfl, trivial⟩, Ext.refl _⟩
  walk_at "s"
  walk_at "v"
  refine ⟨.own 238, ok_digits_end, meth_inst lx.x lx.d ma_digits_end rfl, ?_⟩
  walk_at "v"
  refine c_digits_end lx hT (by omega) ?_
  have ed : (tl T (i + sgn (tl T i))).takeWhile isD = expD (tl T i) := by rw [tl_add]; rfl
  have en : nd isD (tl T (i + sgn (tl T i))) = (expD (tl T i)).length := by unfold nd; rw [ed]
  rw [en]
  walk_at "s"
  walk_at "v"
  ((refine' ⟨_, 297, _, _, _, rfl, Lx.x ?lx, Lx.d ?lx, ?fa, ?l1, ?l2, ?_⟩); (case lx => assumption); (case fa => first | exact fa_text | exact fa_at | exact fa_newline | exact fa_keys); (case l1 => exact rfl); (case l2 => exact rfl); (walk_at "v"))
  refine ⟨T, _, _, rfl, rfl, rfl, Nat.le_trans hT (by decide), ?_⟩
  rw [slice_nat T (by omega), show (tl T (i + sgn (tl T i))).take (i + sgn (tl T i) + (expD (tl T i)).length - (i + sgn (tl T i))) = expD (tl T i) by
    rw [Nat.add_sub_cancel_left, ← en, ← ed]; exact (List.prefix_iff_eq_take.mp (List.takeWhile_prefix _)).symm]
  (first | ((refine' ⟨.bi "str.find", trivial, m_find, ?_⟩); (walk_at "v")) | ((refine' ⟨.bi "str.lower", trivial, m_lower, ?_⟩); (walk_at "v")) | ((refine' ⟨.bi "str.lstrip", trivial, m_lstrip, ?_⟩); (walk_at "v")) | ((refine' ⟨.bi "str.join", trivial, m_join, ?_⟩); (walk_at "v")))
  have hdl : (expD (tl T i)).length ≤ 1000000 := by
    have h1 : (expD (tl T i)).length ≤ (tl T (i + sgn (tl T i))).length := by rw [← ed]; exact (List.takeWhile_prefix _).length_le
    have h2 : (tl T (i + sgn (tl T i))).length ≤ T.cps.toList.length := by unfold tl; rw [List.length_drop]; omega
    rw [str_len] at hT; omega
  refine k_lstrip (by rw [mk_len]; exact Nat.le_trans hdl (by decide)) ?_
  have ez : Txt.lstripChars (mk (expD (tl T i))) (Str.ofString "0") = mk (zs (expD (tl T i))) := (mk_cps _).symm
  rw [ez]
  have hzl : (zs (expD (tl T i))).length ≤ 1000000 := by
    have := PyProof.Rows.len_lstripChars (mk (expD (tl T i))) (Str.ofString "0")
    rw [ez, mk_len, mk_len] at this; omega
  walk_at "s"
  walk_at "v"
  refine ⟨_, rfl, ?_⟩
  (apply jTst; focus (intro _))
  · walk_at "v"
    refine k_lenS (by rw [mk_len]; omega) ?_
    walk_at "v"
    refine ⟨_, rfl, ?_⟩
    (apply jTst; focus (intro _))
    · walk_at "v"
      refine c_digits_value (by omega) ?_
      walk_at "v"
      exact ⟨_, rfl, rfl, rfl⟩
    exact ⟨rfl, rfl⟩
  rw [mk_len]
  refine ⟨fun h => ?_, fun h => ?_⟩
  · walk_at "s"
    walk_at "v"
    refine ⟨_, _, rfl, er (if_pos ?_)⟩
    simp only [Bool.or_eq_true, beq_iff_eq, decide_eq_true_eq] at h
    rcases h with h | h | h
    · left; exact List.eq_nil_of_length_eq_zero (by omega)
    · right; left; omega
    · right; right; exact h
  · have hc : ¬ (expD (tl T i) = [] ∨ (zs (expD (tl T i))).length > 4 ∨ dval (zs (expD (tl T i))) > 4096) := by
      simp only [Bool.or_eq_false_iff, beq_eq_false_iff_ne, decide_eq_false_iff_not] at h
      rintro (q | q | q)
      · rw [q] at h; simp at h
      · omega
      · omega
    have r' := r _ _ (if_neg hc)
    walk_at "s"
    walk_at "s"
    walk_at "v"
    refine ⟨_, rfl, fun hm => ?_, fun hm => ?_⟩
    · rw [if_pos hm] at r'
      walk_at "s"
      walk_at "v"
      refine c_digits_value (by omega) ?_
      walk_at "v"
      refine ⟨Nat.le_of_ble_eq_true rfl, fun t ht => ?_⟩
      rw [Nat.add_assoc]
      exact r' t ht
    · rw [if_neg (by simpa using hm)] at r'
      walk_at "s"
      walk_at "s"
      walk_at "v"
      refine c_digits_value (by omega) ?_
      walk_at "v"
      refine ⟨Nat.le_of_ble_eq_true rfl, fun t ht => ?_⟩
      rw [Nat.add_assoc]
      exact r' t ht
end

section
variable {W : Wd} {fi : Fi} {dp un : Nat} {loc : Loc} {H : AH} {X : Xs} {R : AV → AH → Prop}

noncomputable def isH (c : Nat) : Bool := decide (0 ≤ hexT c)
noncomputable def hval (l : List Nat) : Int := l.foldl (fun (v : Int) (c : Nat) => v * 16 + hexT c) (0 : Int)
theorem hexT_lt {c : Nat} (h : isH c = true) : c < 128 := by
  have h' : 0 ≤ hexT c := by simpa [isH] using h
  unfold hexT at h'
  split at h'
  · omega
  · split at h'
    · omega
    · split at h' <;> omega
theorem asc_of {l : List Nat} (h : asc (l.dropWhile isH) = true) : asc l = true := by
  cases l with
  | nil => rfl
  | cons c q =>
    rw [List.dropWhile_cons] at h
    split at h
    · rename_i hc; simpa [asc] using hexT_lt hc
    · exact h
theorem hex_on (l : List Nat) : decide (0 ≤ hexV l) = onHd isH l := by
  cases l with
  | nil => rfl
  | cons c q => rfl
theorem any3 (a b c : Nat) (l : List Nat) : [mk [a], mk [b], mk [c]].any (· == sg l) = onHd (fun d => d == a || (d == b || d == c)) l := by
  simp only [List.any_cons, List.any_nil, Bool.or_false, eq_lit']
  cases l <;> rfl
theorem any2 (a b : Nat) (l : List Nat) : [mk [a], mk [b]].any (· == sg l) = onHd (fun d => d == a || d == b) l := by
  simp only [List.any_cons, List.any_nil, Bool.or_false, eq_lit']
  cases l <;> rfl
theorem lit_dpp : [Str.ofString ".", Str.ofString "p", Str.ofString "P"] = [mk [46], mk [112], mk [80]] := by decide +kernel
noncomputable def badX (l : List Nat) : Bool := l.takeWhile isH == [] || onHd (fun d => d == 46 || (d == 112 || d == 80)) (l.dropWhile isH)
theorem ok_hexadecimal : (Callee.own 259).ok := fun w => by k_is
theorem ma_hexadecimal : MethAt 297 "hexadecimal" 259 := ⟨fun w => ⟨by k_is, by k_is, by k_is⟩⟩
theorem dropWhile_eq {p : Nat → Bool} (l : List Nat) : l.dropWhile p = l.drop (nd p l) := by
  unfold nd
  induction l with
  | nil => rfl
  | cons c q ih =>
    rw [List.dropWhile_cons, List.takeWhile_cons]
    split
    · rename_i h; simpa using ih
    · rfl
theorem takeWhile_eq {p : Nat → Bool} (l : List Nat) : l.takeWhile p = l.take (nd p l) := List.prefix_iff_eq_take.mp (List.takeWhile_prefix _)

theorem c_hexadecimal {x d ks : Addr} {T : Str} {a : Int} {nl : Bool} {k N : Nat} (lx : Lx H x d ks T a nl) (hT : T.length ≤ 1000000) (hd : dp ≤ 500)
    (has : asc ((tl T (k + 2)).dropWhile isH) = true) (hN : badX (tl T (k + 2)) = false → hval ((tl T (k + 2)).takeWhile isH) = N ∧ N < 2 ^ 62)
    (r : badX (tl T (k + 2)) = false → onHd (fun c => c == 105) ((tl T (k + 2)).dropWhile isH) = false → ∀ t td v H', Tok_ H' t td "num" (.ref v) k nl → NumAt H' v (numV N 1 (onHd (fun c => c == 76) ((tl T (k + 2)).dropWhile isH))) →
      Lx H' x d ks T (k + 2 + nd isH (tl T (k + 2)) + (if onHd (fun c => c == 76) ((tl T (k + 2)).dropWhile isH) then 1 else 0) : Nat) nl → Fram H H' d → R (.ref t) H')
    (er : (badX (tl T (k + 2)) = true ∨ onHd (fun c => c == 105) ((tl T (k + 2)).dropWhile isH) = true) → X "bad_number" k) :
    Call_OK W dp un H (.ref 259) [.ref x, .int k] R X := by
  ((refine' call_def (dp' := _) (un' := _) (fnAt_of ?ho ?hcd ?a ?b ?c ?d ?ne) (binds_of ?hb) ?hl (Nat.le_refl _) (Nat.le_refl _) ?hr ?body); (case ho => intro w; k_is); (case hcd => intro w; k_is); (case a => rfl); (case b => rfl); (case c => rfl); (case d => rfl); (case ne => decide +kernel); (case hb => first | exact binds0 rfl | exact binds1 fun _ => rfl | exact binds2 fun _ _ => rfl | exact binds3 fun _ _ _ => rfl | exact binds5 fun _ _ _ _ _ => rfl); (case hl => rfl); (case hr => omega))
  walk_at "s"
  walk_at "v"
  walk_at "s"
  walk_at "v"
  have ed : ∀ i, (tl T i).dropWhile isH = tl T (i + nd isH (tl T i)) := fun i => by rw [dropWhile_eq, tl_add]
  refine ss_while (σ := Nat) (fun i => k + 2 ≤ i ∧ i + nd isH (tl T i) = k + 2 + nd isH (tl T (k + 2)))
    (fun i => [("self", .ref x), ("at", .int k), ("value", .int (hval ((tl T (k + 2)).take (i - (k + 2))))), ("end", .int i)]) (fun _ => H) (fun i => nd isH (tl T i)) (k + 2) ⟨Nat.le_refl _, rfl⟩ ⟨rfl, rfl, by rw [Nat.sub_self]; rfl, rfl, trivial⟩ (Ext.refl _) ?_
  rintro i ⟨hki, hi⟩
  have ha : asc (tl T i) = true := asc_of (by rw [ed, hi, ← ed]; exact has)
  walk_at "v"
  (((refine' ⟨.own 189, ok_char, meth_inst (Lx.x ?lx) (Lx.d ?lx) ma_char rfl, ?_⟩); (case lx => assumption); (walk_at "v")); ((refine' c_char ?lx ?hT ?hd ?_); (case lx => assumption); (case hT => assumption); (case hd => omega); (walk_at "v")))
  refine c_hex_value ha (by omega) ?_
  walk_at "v"
  rw [hex_on]
  refine ⟨_, rfl, fun h => ?_, fun h => ?_⟩
  · have e := nd_pos h
    rw [← tl_add] at e
    obtain ⟨c, q, hq⟩ : ∃ c q, tl T i = c :: q := by
      cases q : tl T i with
      | nil => rw [q] at h; cases h
      | cons c q' => exact ⟨c, q', rfl⟩
    walk_at "s"
    walk_at "v"
    (((refine' ⟨.own 189, ok_char, meth_inst (Lx.x ?lx) (Lx.d ?lx) ma_char rfl, ?_⟩); (case lx => assumption); (walk_at "v")); ((refine' c_char ?lx ?hT ?hd ?_); (case lx => assumption); (case hT => assumption); (case hd => omega); (walk_at "v")))
    refine c_hex_value ha (by omega) ?_
    walk_at "v"
    walk_at "s"
    walk_at "v"
    walk_at "s"
    refine ⟨i + 1, ⟨by omega, by omega⟩, by omega, ⟨rfl, rfl, ?_, by simp [setL], trivial⟩, Ext.refl _⟩
    have hc : (tl T (k + 2))[i - (k + 2)]? = some c := by
      have : (tl T (k + 2)).drop (i - (k + 2)) = c :: q := by rw [← tl_add, ← hq]; congr 1; omega
      rw [← List.head?_drop, this]; rfl
    rw [show i + 1 - (k + 2) = i - (k + 2) + 1 by omega, List.take_add_one, hc, hq]
    show some (AV.int (hval ((tl T (k + 2)).take (i - (k + 2))) * 16 + hexT c)) = _
    simp [hval]
  · have e := nd_zero h
    have hie : i = k + 2 + nd isH (tl T (k + 2)) := by omega
    have hsub : i - (k + 2) = nd isH (tl T (k + 2)) := by omega
    rw [hsub, ← takeWhile_eq]
    have edi : tl T i = (tl T (k + 2)).dropWhile isH := by rw [ed, ← hie]
    walk_at "s"
    refine t_orX ?_
    walk_at "v"
    refine ⟨_, rfl, ?_⟩
    (apply jTst; focus (intro _))
    · walk_at "v"
      (((refine' ⟨.own 189, ok_char, meth_inst (Lx.x ?lx) (Lx.d ?lx) ma_char rfl, ?_⟩); (case lx => assumption); (walk_at "v")); ((refine' c_char ?lx ?hT ?hd ?_); (case lx => assumption); (case hT => assumption); (case hd => omega); (walk_at "v")))
      ((refine' ⟨Nat.le_of_ble_eq_true rfl, ?_⟩); (intro _ _); (walk_at "v"))
      rw [lit_dpp, any3]
      exact ⟨_, rfl, rfl, Ext.new (Ext.refl _) (by assumption)⟩
    have eb : (((i : Int) == (k : Int) + 2) || onHd (fun d => d == 46 || (d == 112 || d == 80)) (tl T i)) = badX (tl T (k + 2)) := by
      unfold badX
      rw [edi]
      congr 1
      rw [Bool.eq_iff_iff]
      simp only [beq_iff_eq]
      constructor
      · intro q; exact List.eq_nil_of_length_eq_zero (by show nd isH _ = 0; omega)
      · intro q; have : nd isH (tl T (k + 2)) = 0 := by unfold nd; rw [q]; rfl
        omega
    rw [eb]
    refine ⟨fun h2 => ?_, fun h2 => ?_⟩
    · walk_at "s"
      walk_at "v"
      exact ⟨_, _, rfl, er (.inl h2)⟩
    · obtain ⟨hv, hN2⟩ := hN h2
      rw [hv]
      walk_at "s"
      walk_at "s"
      walk_at "v"
      refine ⟨.own 266, ok_number_token, meth_inst lx.x lx.d ma_number_token rfl, ?_⟩
      walk_at "v"
      refine c_number_token (d := 1) lx hT (by omega) hN2 (by decide) (by decide) (fun hi2 t td v H' ht hn lx' fr => ?_) (fun hi2 => er (.inr (by rw [← edi]; exact hi2)))
      rw [edi] at hi2 hn lx'
      rw [hie] at lx'
      exact r h2 hi2 t td v H' ht hn lx' fr
end

section
variable {W : Wd} {fi : Fi} {dp un : Nat} {loc : Loc} {H : AH} {X : Xs} {R : AV → AH → Prop}

noncomputable def numHead (l : List Nat) : List Nat × Int × Nat :=
  if onHd (fun c => c == 46) (l.drop (nd isD l)) = true then
    (l.takeWhile isD ++ (l.drop (nd isD l + 1)).takeWhile isD, -(nd isD (l.drop (nd isD l + 1)) : Int), nd isD l + 1 + nd isD (l.drop (nd isD l + 1)))
  else (l.takeWhile isD, 0, nd isD l)
noncomputable def isE (l : List Nat) : Bool := onHd (fun c => c == 101 || c == 69) l
noncomputable def numP (l : List Nat) : Option (List Nat × Int × Nat) :=
  if isE (l.drop (numHead l).2.2) = true then
    match expo (l.drop ((numHead l).2.2 + 1)) with
    | some (p, n) => some ((numHead l).1, (numHead l).2.1 + p, (numHead l).2.2 + 1 + n)
    | none => none
  else some (numHead l)
noncomputable def hexS (l : List Nat) : Bool := onHd (fun c => c == 48) l && onHd (fun c => c == 120 || c == 88) (l.drop 1)
noncomputable def numN (N : Nat) (sc : Int) : Nat := if 0 ≤ sc then N * 10 ^ sc.toNat else N
noncomputable def numD (sc : Int) : Nat := if 0 ≤ sc then 1 else 10 ^ (0 - sc).toNat
theorem lit_xX : [Str.ofString "x", Str.ofString "X"] = [mk [120], mk [88]] := by decide +kernel
theorem lit_eE : [Str.ofString "e", Str.ofString "E"] = [mk [101], mk [69]] := by decide +kernel
theorem bits_small {a : Int} (h0 : 0 ≤ a) (h1 : a < 2 ^ 62) : Builtin.Int.intBits a ≤ 64 := by
  unfold Builtin.Int.intBits
  split
  · omega
  · rename_i h
    have h' : a ≠ 0 := by simpa using h
    have : a.natAbs.log2 < 62 := by rw [Nat.log2_lt (by omega)]; omega
    omega
theorem tl_len {T : Str} {k : Nat} (hT : T.length ≤ 1000000) : (tl T k).length ≤ 1000000 := by
  unfold tl; rw [List.length_drop]; rw [str_len] at hT; omega
theorem nd_le (p : Nat → Bool) (l : List Nat) : nd p l ≤ l.length := (List.takeWhile_prefix _).length_le
theorem slice_run {T : Str} {p : Nat → Bool} (i : Nat) : Txt.slice T (some (i : Int)) (some ((i + nd p (tl T i) : Nat) : Int)) = mk ((tl T i).takeWhile p) := by
  rw [slice_nat T (by omega), Nat.add_sub_cancel_left, takeWhile_eq]
theorem ok_numeral : (Callee.own 245).ok := fun w => by k_is
theorem ma_numeral : MethAt 297 "numeral" 245 := ⟨fun w => ⟨by k_is, by k_is, by k_is⟩⟩

theorem c_numeral {x d ks : Addr} {T : Str} {a : Int} {nl : Bool} {k : Nat} (lx : Lx H x d ks T a nl) (hT : T.length ≤ 1000000) (hd : dp ≤ 400)
    (hx : hexS (tl T k) = true → Call_OK W (dp + 1) (un + 3) H (.ref 259) [.ref x, .int k] R X)
    (hN : hexS (tl T k) = false → ∀ ds sc e, numP (tl T k) = some (ds, sc, e) → ∃ N : Nat, dval ds = N ∧ N < 2 ^ 40 ∧ -6 ≤ sc ∧ sc ≤ 6)
    (r : hexS (tl T k) = false → ∀ ds sc e N, numP (tl T k) = some (ds, sc, e) → dval ds = (N : Nat) → onHd (fun c => c == 105) (tl T (k + e)) = false → ∀ t td v H', Tok_ H' t td "num" (.ref v) k nl →
      NumAt H' v (numV (numN N sc) (numD sc) (onHd (fun c => c == 76) (tl T (k + e)))) → Lx H' x d ks T (k + e + (if onHd (fun c => c == 76) (tl T (k + e)) then 1 else 0) : Nat) nl → Fram H H' d → R (.ref t) H')
    (er : hexS (tl T k) = false → (numP (tl T k) = none ∨ ∃ ds sc e, numP (tl T k) = some (ds, sc, e) ∧ onHd (fun c => c == 105) (tl T (k + e)) = true) → X "bad_number" k) :
    Call_OK W dp un H (.ref 245) [.ref x, .int k] R X := by
  ((refine' call_def (dp' := _) (un' := _) (fnAt_of ?ho ?hcd ?a ?b ?c ?d ?ne) (binds_of ?hb) ?hl (Nat.le_refl _) (Nat.le_refl _) ?hr ?body); (case ho => intro w; k_is); (case hcd => intro w; k_is); (case a => rfl); (case b => rfl); (case c => rfl); (case d => rfl); (case ne => decide +kernel); (case hb => first | exact binds0 rfl | exact binds1 fun _ => rfl | exact binds2 fun _ _ => rfl | exact binds3 fun _ _ _ => rfl | exact binds5 fun _ _ _ _ _ => rfl); (case hl => rfl); (case hr => omega))
  walk_at "s"
  refine t_andX ?_
  walk_at "v"
  (((refine' ⟨.own 189, ok_char, meth_inst (Lx.x ?lx) (Lx.d ?lx) ma_char rfl, ?_⟩); (case lx => assumption); (walk_at "v")); ((refine' c_char ?lx ?hT ?hd ?_); (case lx => assumption); (case hT => assumption); (case hd => omega); (walk_at "v")))
  rw [lit0, eq_lit]
  refine ⟨_, rfl, ?_⟩
  (apply jTst; focus (intro _))
  · walk_at "v"
    ((refine' ⟨.own 189, ok_char, meth_inst (Lx.x ?lx) (Lx.d ?lx) ma_char rfl, ?_⟩); (case lx => assumption); (walk_at "v"))
    refine c_char (k := k + 1) lx hT (by omega) ?_
    walk_at "v"
    ((refine' ⟨Nat.le_of_ble_eq_true rfl, ?_⟩); (intro _ _); (walk_at "v"))
    rw [lit_xX, any2, tl_add]
    exact ⟨_, rfl, rfl, Ext.new (Ext.refl _) (by assumption)⟩
  rw [show (onHd (fun d => d == 48) (tl T k) && onHd (fun d => d == 120 || d == 88) ((tl T k).drop 1)) = hexS (tl T k) from rfl]
  refine ⟨fun h => ?_, fun h => ?_⟩
  · walk_at "s"
    walk_at "v"
    refine ⟨.own 259, ok_hexadecimal, meth_inst lx.x lx.d ma_hexadecimal rfl, ?_⟩
    walk_at "v"
    exact hx h
  walk_at "s"
  walk_at "s"
  walk_at "v"
  refine ⟨.own 238, ok_digits_end, meth_inst lx.x lx.d ma_digits_end rfl, ?_⟩
  walk_at "v"
  refine c_digits_end lx hT (by omega) ?_
  walk_at "s"
  walk_at "v"
  ((refine' ⟨_, 297, _, _, _, rfl, Lx.x ?lx, Lx.d ?lx, ?fa, ?l1, ?l2, ?_⟩); (case lx => assumption); (case fa => first | exact fa_text | exact fa_at | exact fa_newline | exact fa_keys); (case l1 => exact rfl); (case l2 => exact rfl); (walk_at "v"))
  refine ⟨T, _, _, rfl, rfl, rfl, Nat.le_trans hT (by decide), ?_⟩
  rw [slice_run]
  walk_at "s"
  walk_at "v"
  refine ss_ifK (σ := Unit) (fun st => True) (fun _ => [("self", .ref x), ("at", .int k), ("digits", .str (mk (numHead (tl T k)).1)), ("scale", .int (numHead (tl T k)).2.1), ("end", .int (k + (numHead (tl T k)).2.2 : Nat))]) (fun _ => H) ?_ (fun _ _ => ?_)
  · walk_at "v"
    (((refine' ⟨.own 189, ok_char, meth_inst (Lx.x ?lx) (Lx.d ?lx) ma_char rfl, ?_⟩); (case lx => assumption); (walk_at "v")); ((refine' c_char ?lx ?hT ?hd ?_); (case lx => assumption); (case hT => assumption); (case hd => omega); (walk_at "v")))
    rw [litDot, eq_lit, tl_add]
    refine ⟨_, rfl, fun h2 => ?_, fun h2 => ?_⟩
    · have e1 : numHead (tl T k) = _ := if_pos h2
      rw [e1]
      walk_at "s"
      walk_at "v"
      walk_at "s"
      walk_at "v"
      refine ⟨.own 238, ok_digits_end, meth_inst lx.x lx.d ma_digits_end rfl, ?_⟩
      walk_at "v"
      refine c_digits_end (k := k + nd isD (tl T k) + 1) lx hT (by omega) ?_
      walk_at "s"
      walk_at "v"
      ((refine' ⟨_, 297, _, _, _, rfl, Lx.x ?lx, Lx.d ?lx, ?fa, ?l1, ?l2, ?_⟩); (case lx => assumption); (case fa => first | exact fa_text | exact fa_at | exact fa_newline | exact fa_keys); (case l1 => exact rfl); (case l2 => exact rfl); (walk_at "v"))
      refine ⟨T, ((k + nd isD (tl T k) + 1 : Nat) : Int), _, rfl, rfl, rfl, Nat.le_trans hT (by decide), ?_⟩
      rw [slice_run]
      refine b_cat ?_ ?_
      · rw [mk_len, mk_len]
        have h1 := nd_le isD (tl T k)
        have h2 := nd_le isD (tl T (k + nd isD (tl T k) + 1))
        have h3 := tl_len (T := T) (k := k) hT
        have h4 := tl_len (T := T) (k := k + nd isD (tl T k) + 1) hT
        unfold nd at h1 h2
        exact Nat.le_trans (Nat.add_le_add (Nat.le_trans h1 h3) (Nat.le_trans h2 h4)) (by decide)
      rw [mk_app]
      walk_at "s"
      walk_at "v"
      walk_at "s"
      have e2 : tl T (k + nd isD (tl T k) + 1) = (tl T k).drop (nd isD (tl T k) + 1) := by rw [Nat.add_assoc, tl_add]
      refine ⟨(), trivial, ⟨rfl, rfl, ?_, ?_, ?_, trivial⟩, Ext.refl _⟩
      · rw [← e2]; rfl
      · show some (AV.int (((k + nd isD (tl T k) : Nat) : Int) + 1 - ((k + nd isD (tl T k) + 1 + nd isD (tl T (k + nd isD (tl T k) + 1)) : Nat) : Int))) = _
        rw [e2]; dsimp only; congr 2; omega
      · show some (AV.int ((k + nd isD (tl T k) + 1 + nd isD (tl T (k + nd isD (tl T k) + 1)) : Nat) : Int)) = _
        rw [e2]; dsimp only; congr 2; omega
    · have e1 : numHead (tl T k) = _ := if_neg (by rw [h2]; exact Bool.false_ne_true)
      rw [e1]
      walk_at "s"
      exact ⟨(), trivial, ⟨rfl, rfl, rfl, rfl, rfl, trivial⟩, Ext.refl _⟩
  have ek : tl T (k + (numHead (tl T k)).2.2) = (tl T k).drop (numHead (tl T k)).2.2 := tl_add _ _ _
  refine ss_ifK (σ := List Nat × Int × Nat) (fun st => numP (tl T k) = some st) (fun st => [("self", .ref x), ("at", .int k), ("digits", .str (mk st.1)), ("scale", .int st.2.1), ("end", .int (k + st.2.2 : Nat))]) (fun _ => H) ?_ (fun st hst => ?_)
  · walk_at "v"
    (((refine' ⟨.own 189, ok_char, meth_inst (Lx.x ?lx) (Lx.d ?lx) ma_char rfl, ?_⟩); (case lx => assumption); (walk_at "v")); ((refine' c_char ?lx ?hT ?hd ?_); (case lx => assumption); (case hT => assumption); (case hd => omega); (walk_at "v")))
    ((refine' ⟨Nat.le_of_ble_eq_true rfl, ?_⟩); (intro _ _); (walk_at "v"))
    rw [lit_eE, any2, ek]
    refine ⟨_, rfl, fun h2 => ?_, fun h2 => ?_⟩
    all_goals refine WpF.ext (Ext.new (Ext.refl _) (by assumption)) ?_
    · have e1 : numP (tl T k) = _ := if_pos h2
      walk_at "s"
      walk_at "v"
      refine ⟨.own 252, ok_exponent, meth_inst lx.x lx.d ma_exponent rfl, ?_⟩
      walk_at "v"
      have ek1 : tl T (k + (numHead (tl T k)).2.2 + 1) = (tl T k).drop ((numHead (tl T k)).2.2 + 1) := by rw [Nat.add_assoc, tl_add]
      refine c_exponent (i := k + (numHead (tl T k)).2.2 + 1) lx hT (by omega) ?_ ?_
      · intro p n hp t ht
        rw [ek1] at hp
        rw [hp] at e1
        refine ⟨t, _, rfl, upd_same _ _ _, rfl, ?_⟩
        walk_at "s"
        walk_at "v"
        walk_at "s"
        refine ⟨_, e1, ⟨rfl, rfl, rfl, rfl, ?_, trivial⟩, Ext.new (Ext.refl _) ht⟩
        show some (AV.int ((k + (numHead (tl T k)).2.2 + 1 + n : Nat) : Int)) = _
        dsimp only; congr 2; omega
      · intro hp
        rw [ek1] at hp
        rw [hp] at e1
        exact er h (.inl e1)
    · have e1 : numP (tl T k) = _ := if_neg (by rw [show isE ((tl T k).drop (numHead (tl T k)).2.2) = false from h2]; exact Bool.false_ne_true)
      walk_at "s"
      exact ⟨_, e1, ⟨rfl, rfl, rfl, rfl, rfl, trivial⟩, Ext.refl _⟩
  obtain ⟨ds, sc, e⟩ := st
  dsimp only
  obtain ⟨N, hN1, hN2, hs1, hs2⟩ := hN h ds sc e hst
  have r' := r h ds sc e N hst hN1
  have er' : onHd (fun c => c == 105) (tl T (k + e)) = true → X "bad_number" k := fun q => er h (.inr ⟨_, _, _, hst, q⟩)
  walk_at "s"
  walk_at "v"
  refine c_digits_value (by omega) ?_
  rw [hN1]
  walk_at "s"
  walk_at "v"
  refine ⟨_, rfl, fun h3 => ?_, fun h3 => ?_⟩
  · have h3' : 0 ≤ sc := by simpa using h3
    rw [show numN N sc = N * 10 ^ sc.toNat from if_pos h3', show numD sc = 1 from if_pos h3'] at r'
    walk_at "s"
    walk_at "v"
    refine ⟨.own 266, ok_number_token, meth_inst lx.x lx.d ma_number_token rfl, ?_⟩
    walk_at "v"
    refine b_pow h3' ?_ ?_
    · rw [show Builtin.Int.intBits 10 = 4 by decide]
      refine Int.le_trans (Int.mul_le_mul_of_nonneg_left hs2 (by decide)) (by decide)
    refine b_mul (IntMulOk.of_left (bits_small (by omega) (by omega))) ?_
    walk_at "v"
    have e3 : (N : Int) * 10 ^ sc.toNat = ((N * 10 ^ sc.toNat : Nat) : Int) := by simp
    rw [e3]
    refine c_number_token (d := 1) lx hT (by omega) ?_ (by decide) (by decide) (fun q => r' q) er'
    have : 10 ^ sc.toNat ≤ 10 ^ 6 := Nat.pow_le_pow_right (by decide) (by omega)
    calc N * 10 ^ sc.toNat ≤ N * 10 ^ 6 := Nat.mul_le_mul_left _ this
      _ < 2 ^ 62 := by omega
  · have h3' : ¬ 0 ≤ sc := by simpa using h3
    rw [show numN N sc = N from if_neg h3', show numD sc = 10 ^ (0 - sc).toNat from if_neg h3'] at r'
    walk_at "s"
    walk_at "s"
    walk_at "v"
    refine ⟨.own 266, ok_number_token, meth_inst lx.x lx.d ma_number_token rfl, ?_⟩
    walk_at "v"
    refine b_pow (by omega) ?_ ?_
    · rw [show Builtin.Int.intBits 10 = 4 by decide]
      refine Int.le_trans (Int.mul_le_mul_of_nonneg_left (show 0 - sc ≤ 6 by omega) (by decide)) (by decide)
    walk_at "v"
    have e3 : (10 : Int) ^ (0 - sc).toNat = ((10 ^ (0 - sc).toNat : Nat) : Int) := by simp
    rw [e3]
    have : 10 ^ (0 - sc).toNat ≤ 10 ^ 6 := Nat.pow_le_pow_right (by decide) (by omega)
    refine c_number_token lx hT (by omega) (by omega) (Nat.pow_pos (by decide)) (by omega) (fun q => r' q) er'
end

section
variable {W : Wd} {fi : Fi} {dp un : Nat} {loc : Loc} {H : AH} {X : Xs} {R : AV → AH → Prop}

noncomputable def isB (b : Nat) (c : Nat) : Bool := decide (0 ≤ hexT c) && decide (hexT c < b)
noncomputable def ascC (b most : Nat) (l : List Nat) : Bool := asc ((l.take most).dropWhile (isB b))
noncomputable def cod (b most : Nat) (l : List Nat) : List Nat := (l.take most).takeWhile (isB b)
noncomputable def cval (b : Nat) (l : List Nat) : Int := l.foldl (fun (v : Int) (c : Nat) => v * b + hexT c) (0 : Int)
abbrev cbad (v : Int) : Prop := v = 0 ∨ (55296 ≤ v ∧ v ≤ 57343) ∨ 1114111 < v
noncomputable def codP (b most : Nat) (l : List Nat) : Option (List Nat × Nat) := if cbad (cval b (cod b most l)) then none else some ([(cval b (cod b most l)).toNat], (cod b most l).length)
theorem isB_lt {b c : Nat} (h : isB b c = true) : c < 128 := hexT_lt (by unfold isB at h; rw [Bool.and_eq_true] at h; exact h.1)
theorem asc_take {n : Nat} {l : List Nat} (h : asc (l.take (n + 1)) = true) : asc l = true := by
  cases l with
  | nil => rfl
  | cons c q => exact h
theorem cval_nn {b : Nat} : ∀ {l : List Nat} (v : Int), 0 ≤ v → (∀ c ∈ l, isB b c = true) → 0 ≤ l.foldl (fun (v : Int) (c : Nat) => v * b + hexT c) v
  | [], v, h, _ => h
  | c :: q, v, h, hl => by
    have h1 : 0 ≤ hexT c := by have := hl c (.head _); unfold isB at this; rw [Bool.and_eq_true] at this; simpa using this.1
    have h2 : 0 ≤ v * (b : Int) := Int.mul_nonneg h (by omega)
    exact cval_nn (v * b + hexT c) (by omega) fun c' hc => hl c' (.tail _ hc)
theorem mem_takeWhile {p : Nat → Bool} : ∀ {l : List Nat} {c : Nat}, c ∈ l.takeWhile p → p c = true
  | d :: q, c, h => by
    rw [List.takeWhile_cons] at h
    split at h
    · rename_i hd
      rcases List.mem_cons.mp h with rfl | h
      · exact hd
      · exact mem_takeWhile h
    · cases h
theorem onHd_drop (p : Nat → Bool) (l : List Nat) : onHd p (l.drop (nd p l)) = false := by
  rw [← dropWhile_eq]
  induction l with
  | nil => rfl
  | cons c q ih =>
    rw [List.dropWhile_cons]
    split
    · exact ih
    · rename_i h; simpa [onHd] using h
theorem cod_end {b most : Nat} {l : List Nat} (h : (cod b most l).length < most) : onHd (isB b) (l.drop (cod b most l).length) = false ∧ (ascC b most l = true → asc (l.drop (cod b most l).length) = true) := by
  have e : (l.take most).drop (nd (isB b) (l.take most)) = (l.drop (cod b most l).length).take (most - (cod b most l).length - 1 + 1) := by
    rw [List.drop_take]
    show List.take (most - (cod b most l).length) _ = _
    congr 1; omega
  constructor
  · have := onHd_drop (isB b) (l.take most)
    rw [e] at this
    cases q : l.drop (cod b most l).length with
    | nil => rfl
    | cons c r => rw [q] at this; exact this
  · intro ha
    unfold ascC at ha
    rw [dropWhile_eq, e] at ha
    exact asc_take ha
theorem cod_get {b most j : Nat} {l : List Nat} (h : j < (cod b most l).length) : ∃ c q, l.drop j = c :: q ∧ isB b c = true ∧ (cod b most l).take (j + 1) = (cod b most l).take j ++ [c] := by
  have h1 : (cod b most l)[j]? = some (cod b most l)[j] := List.getElem?_eq_getElem h
  have h2 : cod b most l <+: l := (List.takeWhile_prefix _).trans (List.take_prefix _ _)
  obtain ⟨r, hr⟩ := h2
  refine ⟨(cod b most l)[j], (l.drop (j + 1)), ?_, mem_takeWhile (List.getElem_mem h), by rw [List.take_add_one, h1]; rfl⟩
  have hl : l[j]? = some (cod b most l)[j] := by
    conv => lhs; rw [← hr]
    rw [List.getElem?_append_left h, h1]
  have hj : j < l.length := by
    by_cases q : j < l.length
    · exact q
    · rw [List.getElem?_eq_none (by omega)] at hl; cases hl
  rw [List.drop_eq_getElem_cons hj]
  rw [List.getElem?_eq_getElem hj] at hl
  rw [Option.some.inj hl]
theorem cod_le (b most : Nat) (l : List Nat) : (cod b most l).length ≤ most := Nat.le_trans (List.takeWhile_prefix _).length_le take_len
theorem hexV_cons (c : Nat) (q : List Nat) : hexV (c :: q) = hexT c := rfl
theorem ok_coded : (Callee.own 287).ok := fun w => by k_is
theorem ma_coded : MethAt 297 "coded" 287 := ⟨fun w => ⟨by k_is, by k_is, by k_is⟩⟩
theorem c_coded {x d ks : Addr} {T : Str} {a : Int} {nl : Bool} {k i b most : Nat} (lx : Lx H x d ks T a nl) (hT : T.length ≤ 1000000) (hd : dp ≤ 500) (hb : b ≤ 16) (has : ascC b most (tl T i) = true)
    (r : ∀ v n, codP b most (tl T i) = some (v, n) → ∀ t, H t = none → R (.ref t) (upd H t (.tup [.str (mk v), .int (i + n : Nat)])))
    (er : codP b most (tl T i) = none → X "bad_escape" k) :
    Call_OK W dp un H (.ref 287) [.ref x, .int k, .int i, .int b, .int most] R X := by
  ((refine' call_def (dp' := _) (un' := _) (fnAt_of ?ho ?hcd ?a ?b ?c ?d ?ne) (binds_of ?hb) ?hl (Nat.le_refl _) (Nat.le_refl _) ?hr ?body); (case ho => intro w; k_is); (case hcd => intro w; k_is); (case a => rfl); (case b => rfl); (case c => rfl); (case d => rfl); (case ne => decide +kernel); (case hb => first | exact binds0 rfl | exact binds1 fun _ => rfl | exact binds2 fun _ _ => rfl | exact binds3 fun _ _ _ => rfl | exact binds5 fun _ _ _ _ _ => rfl); (case hl => rfl); (case hr => omega))
  walk_at "s"
  walk_at "v"
  walk_at "s"
  walk_at "v"
  refine ss_whileK (σ := Nat) (fun j => j ≤ (cod b most (tl T i)).length) (fun j => j = (cod b most (tl T i)).length)
    (fun j => [("self", .ref x), ("at", .int k), ("begin", .int i), ("base", .int b), ("most", .int most), ("value", .int (cval b ((cod b most (tl T i)).take j))), ("index", .int (i + j : Nat))]) (fun _ => H) (fun j => most - j) 0 (Nat.zero_le _) ⟨rfl, rfl, rfl, rfl, rfl, rfl, rfl, trivial⟩ (Ext.refl _) ?_ ?_
  · intro j hj
    have hle := cod_le b most (tl T i)
    walk_at "v"
    refine ⟨_, rfl, fun h => ?_, fun h => ?_⟩
    · have h' : j < most := by
        have : ((i + j : Nat) : Int) < (i : Int) + (most : Int) := by simpa using h
        omega
      walk_at "s"
      walk_at "v"
      (((refine' ⟨.own 189, ok_char, meth_inst (Lx.x ?lx) (Lx.d ?lx) ma_char rfl, ?_⟩); (case lx => assumption); (walk_at "v")); ((refine' c_char ?lx ?hT ?hd ?_); (case lx => assumption); (case hT => assumption); (case hd => omega); (walk_at "v")))
      by_cases hjn : j < (cod b most (tl T i)).length
      · obtain ⟨c, q, hq, hc, htk⟩ := cod_get hjn
        rw [← tl_add] at hq
        rw [hq]
        refine c_hex_value (by simpa [asc] using isB_lt hc) (by omega) ?_
        rw [hexV_cons]
        have hc' : 0 ≤ hexT c ∧ hexT c < b := by simpa [isB] using hc
        walk_at "s"
        walk_at "v"
        refine ⟨_, rfl, ?_⟩
        (apply jTst; focus (intro _))
        · walk_at "v"
          exact ⟨_, rfl, rfl, rfl⟩
        refine ⟨fun h2 => ?_, fun h2 => ?_⟩
        · simp only [Bool.or_eq_true, decide_eq_true_eq] at h2; omega
        walk_at "s"
        walk_at "s"
        walk_at "v"
        refine b_mul (IntMulOk.of_right (bits_small (by omega) (by omega))) ?_
        walk_at "v"
        walk_at "s"
        walk_at "v"
        walk_at "s"
        refine ⟨j + 1, by omega, by omega, ⟨rfl, rfl, rfl, rfl, rfl, ?_, ?_, trivial⟩, Ext.refl _⟩
        · rw [htk]
          show some (AV.int (cval b ((cod b most (tl T i)).take j) * b + hexT c)) = _
          simp [cval]
        · show some (AV.int (((i + j : Nat) : Int) + 1)) = _
          rfl
      · have hjn' : j = (cod b most (tl T i)).length := by omega
        obtain ⟨e1, e2⟩ := cod_end (b := b) (most := most) (l := tl T i) (by omega)
        have e2 := e2 has
        rw [← hjn', ← tl_add] at e1 e2
        refine c_hex_value e2 (by omega) ?_
        have hc' : hexV (tl T (i + j)) < 0 ∨ (b : Int) ≤ hexV (tl T (i + j)) := by
          cases q : tl T (i + j) with
          | nil => left; decide
          | cons c r => rw [q] at e1; simp [onHd, isB] at e1; rw [hexV_cons]; omega
        walk_at "s"
        walk_at "v"
        refine ⟨_, rfl, ?_⟩
        (apply jTst; focus (intro _))
        · walk_at "v"
          exact ⟨_, rfl, rfl, rfl⟩
        refine ⟨fun h2 => ?_, fun h2 => ?_⟩
        · walk_at "s"
          exact ⟨j, hjn', ⟨rfl, rfl, rfl, rfl, rfl, rfl, rfl, trivial⟩, Ext.refl _⟩
        · simp only [Bool.or_eq_false_iff, decide_eq_false_iff_not] at h2; omega
    · have h' : ¬ j < most := by
        have : ¬ ((i + j : Nat) : Int) < (i : Int) + (most : Int) := by simpa using h
        omega
      exact ⟨j, by omega, ⟨rfl, rfl, rfl, rfl, rfl, rfl, rfl, trivial⟩, Ext.refl _⟩
  rintro j rfl
  rw [List.take_length]
  have hnn : 0 ≤ cval b (cod b most (tl T i)) := cval_nn 0 (by decide) fun c hc => mem_takeWhile hc
  walk_at "s"
  walk_at "v"
  (apply jAnd rfl; focus (intro _))
  · walk_at "v"
    exact ⟨rfl, rfl⟩
  walk_at "s"
  walk_at "v"
  refine ⟨_, rfl, ?_⟩
  (apply jTst; focus (intro _))
  · walk_at "v"
    refine ⟨_, rfl, ?_⟩
    (apply jTst; focus (intro _))
    · walk_at "v"
      exact ⟨_, rfl, rfl, rfl⟩
    exact ⟨rfl, rfl⟩
  refine ⟨fun h => ?_, fun h => ?_⟩
  · walk_at "s"
    walk_at "v"
    refine ⟨_, _, rfl, er (if_pos ?_)⟩
    simp only [Bool.or_eq_true, Bool.and_eq_true, beq_iff_eq, decide_eq_true_eq] at h
    unfold cbad; exact h
  · have hc : ¬ cbad (cval b (cod b most (tl T i))) := by
      unfold cbad
      simp only [Bool.or_eq_false_iff, Bool.and_eq_false_iff, beq_eq_false_iff_ne, decide_eq_false_iff_not] at h
      omega
    have r' := r _ _ (if_neg hc)
    unfold cbad at hc
    walk_at "s"
    walk_at "s"
    walk_at "v"
    refine k_chr hnn (by omega) ?_
    walk_at "v"
    refine ⟨Nat.le_of_ble_eq_true rfl, fun t ht => r' t ht⟩
end

section
variable {W : Wd} {fi : Fi} {dp un : Nat} {loc : Loc} {H : AH} {X : Xs} {R : AV → AH → Prop}

noncomputable def most_ (c : Nat) : Nat := if c = 117 then 4 else if c = 85 then 8 else 0
noncomputable def shO (k : Nat) : Option (List Nat × Nat) → Option (List Nat × Nat) := Option.map fun p => (p.1, k + p.2)
/-- an escape: the sign after the stroke, and what follows; counted from the stroke -/
noncomputable def escP (c : Nat) (q : List Nat) : Option (List Nat × Nat) :=
  if simpE c ≠ [] then some (simpE c, 2)
  else if 48 ≤ c ∧ c ≤ 55 then shO 1 (codP 8 3 (c :: q))
  else if c = 120 then shO 2 (codP 16 2 q)
  else if most_ c = 0 then none
  else if onHd (fun d => d == 123) q = false then shO 2 (codP 16 (most_ c) q)
  else match codP 16 (most_ c) (q.drop 1) with
    | none => none
    | some (v, n) => if onHd (fun d => d == 125) (q.drop (n + 1)) = true then some (v, n + 4) else none
noncomputable def escA (c : Nat) (q : List Nat) : Bool :=
  if simpE c ≠ [] then true
  else if 48 ≤ c ∧ c ≤ 55 then ascC 8 3 (c :: q)
  else if c = 120 then ascC 16 2 q
  else if most_ c = 0 then true
  else if onHd (fun d => d == 123) q = false then ascC 16 (most_ c) q
  else ascC 16 (most_ c) (q.drop 1)
theorem lit7 : Str.ofString "7" = mk [55] := by decide +kernel
theorem lit_x : Str.ofString "x" = mk [120] := by decide +kernel
theorem lit_u : Str.ofString "u" = mk [117] := by decide +kernel
theorem lit_U : Str.ofString "U" = mk [85] := by decide +kernel
theorem lit_lb : Str.ofString "{" = mk [123] := by decide +kernel
theorem lit_rb : Str.ofString "}" = mk [125] := by decide +kernel
theorem ok_escape : (Callee.own 280).ok := fun w => by k_is
theorem ma_escape : MethAt 297 "escape" 280 := ⟨fun w => ⟨by k_is, by k_is, by k_is⟩⟩
theorem c_escape {x d ks : Addr} {T : Str} {a : Int} {nl : Bool} {k c : Nat} {q : List Nat} (lx : Lx H x d ks T a nl) (hT : T.length ≤ 1000000) (hd : dp ≤ 400) (hq : tl T (k + 1) = c :: q) (hc : c < 128) (has : escA c q = true)
    (r : ∀ v n, escP c q = some (v, n) → ∀ t H', Ext H H' → H' t = some (.tup [.str (mk v), .int (k + n : Nat)]) → R (.ref t) H')
    (er : escP c q = none → X "bad_escape" k) :
    Call_OK W dp un H (.ref 280) [.ref x, .int k] R X := by
  have hq1 : tl T (k + 2) = q := tl_cons hq
  ((refine' call_def (dp' := _) (un' := _) (fnAt_of ?ho ?hcd ?a ?b ?c ?d ?ne) (binds_of ?hb) ?hl (Nat.le_refl _) (Nat.le_refl _) ?hr ?body); (case ho => intro w; k_is); (case hcd => intro w; k_is); (case a => rfl); (case b => rfl); (case c => rfl); (case d => rfl); (case ne => decide +kernel); (case hb => first | exact binds0 rfl | exact binds1 fun _ => rfl | exact binds2 fun _ _ => rfl | exact binds3 fun _ _ _ => rfl | exact binds5 fun _ _ _ _ _ => rfl); (case hl => rfl); (case hr => omega))
  walk_at "s"
  walk_at "v"
  ((refine' ⟨.own 189, ok_char, meth_inst (Lx.x ?lx) (Lx.d ?lx) ma_char rfl, ?_⟩); (case lx => assumption); (walk_at "v"))
  refine c_char (k := k + 1) lx hT (by omega) ?_
  rw [hq]
  walk_at "s"
  walk_at "v"
  refine c_simple_escape hc (by omega) ?_
  walk_at "s"
  walk_at "v"
  rw [bne_not, show (mk (simpE c) == Str.ofString "") = decide (simpE c = []) by rw [lit_emp, mk_eq]]
  refine ⟨_, rfl, fun h => ?_, fun h => ?_⟩
  · have h1 : simpE c ≠ [] := by simpa using h
    have r' := r _ _ (if_pos h1)
    walk_at "s"
    walk_at "v"
    refine ⟨Nat.le_of_ble_eq_true rfl, fun t ht => ?_⟩
    exact r' t _ (Ext.new (Ext.refl _) ht) (upd_same _ _ _)
  have h1 : ¬ simpE c ≠ [] := by simpa using h
  have e1 : escP c q = _ := if_neg h1
  have a1 : escA c q = _ := if_neg h1
  rw [a1] at has
  rw [e1] at r er
  clear e1 a1
  walk_at "s"
  walk_at "s"
  walk_at "v"
  refine c_is_digit (by omega) ?_
  refine ⟨_, rfl, ?_⟩
  (apply jTst; focus (intro _))
  · walk_at "v"
    rw [lit7, lit_le]
    exact ⟨_, rfl, rfl, rfl⟩
  rw [show (onHd isD (c :: q) && decide (c ≤ 55)) = decide (48 ≤ c ∧ c ≤ 55) by
    rw [Bool.eq_iff_iff]; simp [onHd, isD]; omega]
  have upq : ∀ {b most i off : Nat} {l : List Nat}, tl T i = l → ascC b most l = true → b ≤ 16 → i = k + off →
      (∀ v n, shO off (codP b most l) = some (v, n) → ∀ t H', Ext H H' → H' t = some (.tup [.str (mk v), .int (k + n : Nat)]) → R (.ref t) H') → (shO off (codP b most l) = none → X "bad_escape" k) →
      Call_OK W (dp + 1) (un + 3) H (.ref 287) [.ref x, .int k, .int i, .int b, .int most] R X := by
    intro b most i off l hl ha hb hi r er
    subst hl hi
    refine c_coded lx hT (by omega) hb ha (fun v n hv t ht => ?_) (fun hn => er (by rw [hn]; rfl))
    refine r v (off + n) (by rw [hv]; rfl) t _ (Ext.new (Ext.refl _) ht) ?_
    rw [upd_same, Nat.add_assoc]
  refine ⟨fun h2 => ?_, fun h2 => ?_⟩
  · have h2' : 48 ≤ c ∧ c ≤ 55 := by simpa using h2
    rw [if_pos h2'] at r er has
    walk_at "s"
    walk_at "v"
    refine ⟨.own 287, ok_coded, meth_inst lx.x lx.d ma_coded rfl, ?_⟩
    walk_at "v"
    exact upq (b := 8) (most := 3) (i := k + 1) hq has (by decide) rfl r er
  have h2' : ¬ (48 ≤ c ∧ c ≤ 55) := by simpa using h2
  rw [if_neg h2'] at r er has
  walk_at "s"
  walk_at "s"
  walk_at "v"
  rw [lit_x, eq_lit, show onHd (fun d => d == 120) (c :: q) = decide (c = 120) from rfl]
  refine ⟨_, rfl, fun h3 => ?_, fun h3 => ?_⟩
  · have h3' : c = 120 := by simpa using h3
    rw [if_pos h3'] at r er has
    walk_at "s"
    walk_at "v"
    refine ⟨.own 287, ok_coded, meth_inst lx.x lx.d ma_coded rfl, ?_⟩
    walk_at "v"
    exact upq (b := 16) (most := 2) (i := k + 2) hq1 has (by decide) rfl r er
  have h3' : ¬ c = 120 := by simpa using h3
  rw [if_neg h3'] at r er has
  walk_at "s"
  walk_at "s"
  walk_at "v"
  refine ss_ifK (σ := Unit) (fun _ => True) (fun _ => [("self", .ref x), ("at", .int k), ("most", .int (most_ c))]) (fun _ => H) ?_ (fun _ _ => ?_)
  · walk_at "v"
    rw [lit_u, eq_lit, show onHd (fun d => d == 117) (c :: q) = decide (c = 117) from rfl]
    refine ⟨_, rfl, fun h4 => ?_, fun h4 => ?_⟩
    · have h4' : c = 117 := by simpa using h4
      rw [show most_ c = 4 from if_pos h4']
      walk_at "s"
      walk_at "v"
      walk_at "s"
      exact ⟨(), trivial, ⟨rfl, rfl, rfl, trivial⟩, Ext.refl _⟩
    · have h4' : ¬ c = 117 := by simpa using h4
      walk_at "s"
      walk_at "v"
      rw [lit_U, eq_lit, show onHd (fun d => d == 85) (c :: q) = decide (c = 85) from rfl]
      refine ⟨_, rfl, fun h5 => ?_, fun h5 => ?_⟩
      · have h5' : c = 85 := by simpa using h5
        rw [show most_ c = 8 by rw [most_, if_neg h4', if_pos h5']]
        walk_at "s"
        walk_at "v"
        walk_at "s"
        walk_at "s"
        exact ⟨(), trivial, ⟨rfl, rfl, rfl, trivial⟩, Ext.refl _⟩
      · have h5' : ¬ c = 85 := by simpa using h5
        rw [show most_ c = 0 by rw [most_, if_neg h4', if_neg h5']]
        walk_at "s"
        walk_at "s"
        exact ⟨(), trivial, ⟨rfl, rfl, rfl, trivial⟩, Ext.refl _⟩
  walk_at "s"
  walk_at "v"
  refine ⟨_, rfl, fun h4 => ?_, fun h4 => ?_⟩
  · have h4' : most_ c = 0 := by have : ((most_ c : Nat) : Int) = 0 := by simpa using h4
                                 omega
    rw [if_pos h4'] at er
    walk_at "s"
    walk_at "v"
    exact ⟨_, _, rfl, er rfl⟩
  have h4' : ¬ most_ c = 0 := by
    intro q; rw [q] at h4; cases h4
  rw [if_neg h4'] at r er has
  walk_at "s"
  walk_at "s"
  walk_at "v"
  ((refine' ⟨.own 189, ok_char, meth_inst (Lx.x ?lx) (Lx.d ?lx) ma_char rfl, ?_⟩); (case lx => assumption); (walk_at "v"))
  refine c_char (k := k + 2) lx hT (by omega) ?_
  walk_at "v"
  rw [bne_not, lit_lb, eq_lit, hq1]
  refine ⟨_, rfl, fun h5 => ?_, fun h5 => ?_⟩
  · have h5' : onHd (fun d => d == 123) q = false := by simpa using h5
    rw [if_pos h5'] at r er has
    walk_at "s"
    walk_at "v"
    refine ⟨.own 287, ok_coded, meth_inst lx.x lx.d ma_coded rfl, ?_⟩
    walk_at "v"
    exact upq (b := 16) (most := most_ c) (i := k + 2) hq1 has (by decide) rfl r er
  have h5' : ¬ onHd (fun d => d == 123) q = false := by simpa using h5
  rw [if_neg h5'] at r er has
  walk_at "s"
  walk_at "s"
  walk_at "v"
  refine ⟨.own 287, ok_coded, meth_inst lx.x lx.d ma_coded rfl, ?_⟩
  walk_at "v"
  have hq3 : tl T (k + 3) = q.drop 1 := by rw [← hq1, ← tl_add]
  refine c_coded (i := k + 3) (b := 16) lx hT (by omega) (by decide) (by rw [hq3]; exact has) ?_ ?_
  · intro v n hv t ht
    rw [hq3] at hv
    rw [hv] at r er
    dsimp only at r er
    refine ⟨t, _, rfl, upd_same _ _ _, rfl, ?_⟩
    have lx' := lx.new (o := .tup [.str (mk v), .int (k + 3 + n : Nat)]) ht
    have hqn : tl T (k + 3 + n) = q.drop (n + 1) := by rw [tl_add, hq3, List.drop_drop]; congr 1; omega
    walk_at "s"
    walk_at "v"
    ((refine' ⟨.own 189, ok_char, meth_inst (Lx.x ?lx) (Lx.d ?lx) ma_char rfl, ?_⟩); (case lx => assumption); (walk_at "v"))
    refine c_char (k := k + 3 + n) lx' hT (by omega) ?_
    walk_at "v"
    rw [bne_not, lit_rb, eq_lit, hqn]
    refine ⟨_, rfl, fun h6 => ?_, fun h6 => ?_⟩
    · have h6' : onHd (fun d => d == 125) (q.drop (n + 1)) = false := by simpa using h6
      rw [if_neg (by rw [h6']; exact Bool.false_ne_true)] at er
      walk_at "s"
      walk_at "v"
      exact ⟨_, _, rfl, er rfl⟩
    · have h6' : onHd (fun d => d == 125) (q.drop (n + 1)) = true := by simpa using h6
      rw [if_pos h6'] at r
      walk_at "s"
      walk_at "s"
      walk_at "v"
      refine ⟨Nat.le_of_ble_eq_true rfl, fun t2 ht2 => ?_⟩
      refine r v (n + 4) rfl t2 _ ((Ext.new (Ext.new (Ext.refl _) ht) ht2)) ?_
      rw [upd_same, show ((k + (n + 4) : Nat) : Int) = ((k + 3 + n : Nat) : Int) + 1 by omega]
  · intro hn
    rw [hq3] at hn
    rw [hn] at er
    exact er rfl
end

section
variable {W : Wd} {fi : Fi} {dp un : Nat} {loc : Loc} {H : AH} {X : Xs} {R : AV → AH → Prop}

inductive QO where
  | ok (v : List Nat) (n : Nat)
  | unf
  | bad (off : Nat)
noncomputable def QO.sh (v : List Nat) (n : Nat) : QO → QO
  | .ok v' n' => .ok (v ++ v') (n + n')
  | .unf => .unf
  | .bad o => .bad (n + o)
theorem QO.sh_sh (v w : List Nat) (n m : Nat) (o : QO) : (o.sh w m).sh v n = o.sh (v ++ w) (n + m) := by
  cases o <;> simp [QO.sh, Nat.add_assoc]
theorem QO.sh_nil (o : QO) : o.sh [] 0 = o := by cases o <;> simp [QO.sh]
/-- what stands behind an opening quote, and what comes of it -/
inductive QW (q : Nat) : List Nat → QO → Prop
  | done (r : List Nat) : QW q (q :: r) (.ok [] 1)
  | nil : QW q [] .unf
  | chr (c : Nat) (r : List Nat) (o : QO) : c ≠ q → c ≠ 92 → QW q r o → QW q (c :: r) (o.sh [c] 1)
  | bs : QW q [92] .unf
  | esc (c : Nat) (r v : List Nat) (n : Nat) (o : QO) : c < 128 → escA c r = true → escP c r = some (v, n) → QW q ((92 :: c :: r).drop n) o → QW q (92 :: c :: r) (o.sh v n)
  | ebad (c : Nat) (r : List Nat) : c < 128 → escA c r = true → escP c r = none → QW q (92 :: c :: r) (.bad 0)
theorem simpE_len (c : Nat) : (simpE c).length ≤ 1 := by unfold simpE; repeat (first | exact Nat.le_refl _ | exact Nat.zero_le _ | split)
theorem codP_len {b m : Nat} {l v : List Nat} {n : Nat} (h : codP b m l = some (v, n)) : v.length = 1 := by
  unfold codP at h; split at h <;> cases h; rfl
theorem shO_some {k : Nat} {o : Option (List Nat × Nat)} {v : List Nat} {n : Nat} (h : shO k o = some (v, n)) : ∃ m, o = some (v, m) ∧ n = k + m := by
  cases o with
  | none => cases h
  | some p => cases h; exact ⟨p.2, rfl, rfl⟩
theorem escP_len {c : Nat} {q v : List Nat} {n : Nat} (h : escP c q = some (v, n)) : v.length ≤ 1 ∧ 1 ≤ n := by
  unfold escP at h
  split at h
  · cases h; exact ⟨simpE_len c, by omega⟩
  split at h
  · obtain ⟨m, h1, rfl⟩ := shO_some h; exact ⟨by rw [codP_len h1]; exact Nat.le_refl _, by omega⟩
  split at h
  · obtain ⟨m, h1, rfl⟩ := shO_some h; exact ⟨by rw [codP_len h1]; exact Nat.le_refl _, by omega⟩
  split at h
  · cases h
  split at h
  · obtain ⟨m, h1, rfl⟩ := shO_some h; exact ⟨by rw [codP_len h1]; exact Nat.le_refl _, by omega⟩
  split at h
  · cases h
  · rename_i v' n' h1
    split at h
    · cases h; exact ⟨by rw [codP_len h1]; exact Nat.le_refl _, by omega⟩
    · cases h
theorem join_mk (vs : List (List Nat)) : Txt.join (Str.ofString "") (vs.map mk) = mk vs.flatten := by
  have key : ∀ (P : List (List Nat)) (a : List Nat), (P.map mk).foldl (fun acc p => acc ++ (mk []).cps ++ p.cps) a.toArray = (a ++ P.flatten).toArray := by
    intro P
    induction P with
    | nil => intro a; simp
    | cons p r ih =>
      intro a
      rw [List.map_cons, List.foldl_cons, show a.toArray ++ (mk []).cps ++ (mk p).cps = (a ++ p).toArray by simp [mk], ih]
      simp
  rw [lit_emp]
  cases vs with
  | nil => rfl
  | cons v r => 
    have := key r v
    unfold Txt.join Builtin.Str.glued
    simp only [List.map_cons, List.drop_one, List.tail_cons, List.headD_cons]
    show (⟨_⟩ : Str) = ⟨_⟩
    congr 1
theorem Ext.updNew {H H' : AH} {a : Addr} {o : AO} (h : Ext H H') (hn : H a = none) : Ext H (Mine.upd H' a o) := fun b o' e => by
  rw [upd_ne _ _ (fun q => by rw [q, hn] at e; cases e)]; exact h b o' e
theorem lit_bs : Str.ofString "\\" = mk [92] := by decide +kernel
theorem ok_quoted : (Callee.own 273).ok := fun w => by k_is
theorem ma_quoted : MethAt 297 "quoted" 273 := ⟨fun w => ⟨by k_is, by k_is, by k_is⟩⟩
theorem c_quoted {x d ks : Addr} {T : Str} {a : Int} {nl : Bool} {k q : Nat} {body : List Nat} {O : QO} (lx : Lx H x d ks T a nl) (hT1 : T.length ≤ 100000) (hd : dp ≤ 350) (hq : tl T k = q :: body) (hq92 : q ≠ 92) (hO : QW q body O)
    (r : ∀ v n, O = .ok v n → ∀ t H', Ext H H' → H' t = some (.tup [.str (mk v), .int (k + 1 + n : Nat)]) → R (.ref t) H')
    (er : O = .unf → X "unfinished_string" k) (er2 : ∀ off, O = .bad off → X "bad_escape" ((k + 1 + off : Nat) : Int)) :
    Call_OK W dp un H (.ref 273) [.ref x, .int k] R X := by
  have hT : T.length ≤ 1000000 := Nat.le_trans hT1 (by decide)
  have hq1 : tl T (k + 1) = body := tl_cons hq
  have hlen0 : (tl T (k + 1)).length ≤ 100000 := by unfold tl; rw [List.length_drop]; rw [str_len] at hT1; omega
  ((refine' call_def (dp' := _) (un' := _) (fnAt_of ?ho ?hcd ?a ?b ?c ?d ?ne) (binds_of ?hb) ?hl (Nat.le_refl _) (Nat.le_refl _) ?hr ?body); (case ho => intro w; k_is); (case hcd => intro w; k_is); (case a => rfl); (case b => rfl); (case c => rfl); (case d => rfl); (case ne => decide +kernel); (case hb => first | exact binds0 rfl | exact binds1 fun _ => rfl | exact binds2 fun _ _ => rfl | exact binds3 fun _ _ _ => rfl | exact binds5 fun _ _ _ _ _ => rfl); (case hl => rfl); (case hr => omega))
  walk_at "s"
  walk_at "v"
  (((refine' ⟨.own 189, ok_char, meth_inst (Lx.x ?lx) (Lx.d ?lx) ma_char rfl, ?_⟩); (case lx => assumption); (walk_at "v")); ((refine' c_char ?lx ?hT ?hd ?_); (case lx => assumption); (case hT => assumption); (case hd => omega); (walk_at "v")))
  rw [hq, show sg (q :: body) = mk [q] from rfl]
  walk_at "s"
  walk_at "v"
  refine ⟨Nat.le_of_ble_eq_true rfl, fun la hla => ?_⟩
  walk_at "s"
  walk_at "v"
  refine ss_while (σ := Nat × List (List Nat) × AH) (fun st => Ext H st.2.2 ∧ st.2.2 la = some (.lst (avStrs (st.2.1.map mk))) ∧ k + 1 ≤ st.1 ∧ (∃ o, QW q (tl T st.1) o ∧ O = o.sh st.2.1.flatten (st.1 - (k + 1))) ∧ st.2.1.length + (tl T st.1).length ≤ 100000 ∧ (st.2.1.map (·.length)).sum ≤ st.2.1.length)
    (fun st => [("self", .ref x), ("at", .int k), ("quote", .str (mk [q])), ("chars", .ref la), ("index", .int st.1)]) (fun st => st.2.2) (fun st => (tl T st.1).length) (k + 1, [], upd H la (.lst []))
    ⟨Ext.new (Ext.refl _) hla, upd_same _ _ _, Nat.le_refl _, ⟨O, by rw [hq1]; exact hO, by simp [QO.sh_nil]⟩, by simpa using hlen0, by simp⟩ ⟨rfl, rfl, rfl, rfl, rfl, trivial⟩ (Ext.refl _) ?_
  rintro ⟨i, vs, H1⟩ ⟨e1, e2, e3, ⟨o, e4, e5⟩, e6, e7⟩
  dsimp only at e1 e2 e3 e4 e5 e6 e7 ⊢
  have lx1 := lx.ext e1
  walk_at "v"
  (((refine' ⟨.own 189, ok_char, meth_inst (Lx.x ?lx) (Lx.d ?lx) ma_char rfl, ?_⟩); (case lx => assumption); (walk_at "v")); ((refine' c_char ?lx ?hT ?hd ?_); (case lx => assumption); (case hT => assumption); (case hd => omega); (walk_at "v")))
  rw [bne_not, eq_lit]
  refine ⟨_, rfl, fun h => ?_, fun h => ?_⟩
  · have h' : onHd (fun d => d == q) (tl T i) = false := by simpa using h
    walk_at "s"
    walk_at "v"
    (((refine' ⟨.own 189, ok_char, meth_inst (Lx.x ?lx) (Lx.d ?lx) ma_char rfl, ?_⟩); (case lx => assumption); (walk_at "v")); ((refine' c_char ?lx ?hT ?hd ?_); (case lx => assumption); (case hT => assumption); (case hd => omega); (walk_at "v")))
    walk_at "s"
    walk_at "v"
    rw [lit_emp, eq_emp]
    refine ⟨_, rfl, fun h2 => ?_, fun h2 => ?_⟩
    · walk_at "s"
      walk_at "v"
      have hn : tl T i = [] := by simpa using h2
      rw [hn] at e4
      cases e4
      exact ⟨_, _, rfl, er e5⟩
    walk_at "s"
    refine ss_ifK (σ := List Nat × Nat × AH) (fun st => st.1.length ≤ 1 ∧ Ext H1 st.2.2 ∧ i < st.2.1 ∧ (tl T st.2.1).length < (tl T i).length ∧ ∃ o', QW q (tl T st.2.1) o' ∧ o = o'.sh st.1 (st.2.1 - i))
      (fun st => [("self", .ref x), ("at", .int k), ("quote", .str (mk [q])), ("chars", .ref la), ("char", .str (mk st.1)), ("index", .int st.2.1)]) (fun st => st.2.2) ?_ ?_
    · walk_at "v"
      rw [lit_bs, eq_lit]
      refine ⟨_, rfl, fun h3 => ?_, fun h3 => ?_⟩
      · walk_at "s"
        walk_at "v"
        ((refine' ⟨.own 189, ok_char, meth_inst (Lx.x ?lx) (Lx.d ?lx) ma_char rfl, ?_⟩); (case lx => assumption); (walk_at "v"))
        refine c_char (k := i + 1) lx1 hT (by omega) ?_
        walk_at "v"
        rw [eq_emp]
        obtain ⟨r0, hr0⟩ : ∃ r0, tl T i = 92 :: r0 := by
          cases z : tl T i with
          | nil => rw [z] at h3; cases h3
          | cons c r0 => rw [z] at h3; have : c = 92 := by simpa [onHd] using h3
                         exact ⟨r0, by rw [this]⟩
        have hr1 := tl_cons hr0
        refine ⟨_, rfl, fun h4 => ?_, fun h4 => ?_⟩
        · walk_at "s"
          walk_at "v"
          have hn : r0 = [] := by rw [hr1] at h4; simpa using h4
          subst hn
          rw [hr0] at e4
          cases e4 with
          | done => exact absurd rfl hq92
          | chr _ _ _ _ h92 _ => exact absurd rfl h92
          | bs => exact ⟨_, _, rfl, er e5⟩
        · obtain ⟨c, r1, hc⟩ : ∃ c r1, r0 = c :: r1 := by
            cases z : r0 with
            | nil => rw [hr1, z] at h4; cases h4
            | cons c r1 => exact ⟨c, r1, rfl⟩
          subst hc
          rw [hr0] at e4
          walk_at "s"
          walk_at "s"
          walk_at "v"
          refine ⟨.own 280, ok_escape, meth_inst lx1.x lx1.d ma_escape rfl, ?_⟩
          walk_at "v"
          cases e4 with
          | done => exact absurd rfl hq92
          | chr _ _ _ _ h92 _ => exact absurd rfl h92
          | ebad _ _ hc1 hc2 hc3 =>
            refine c_escape lx1 hT (by omega) hr1 hc1 hc2 (fun v n hv => by rw [hc3] at hv; cases hv) fun _ => ?_
            have := er2 _ e5
            rw [show ((k + 1 + (i - (k + 1) + 0) : Nat) : Int) = (i : Int) by omega] at this
            exact this
          | esc _ _ v n o' hc1 hc2 hc3 hc4 =>
            refine c_escape lx1 hT (by omega) hr1 hc1 hc2 (fun v' n' hv t H' ex ht => ?_) (fun hv => by rw [hc3] at hv; cases hv)
            rw [hc3] at hv; cases hv
            obtain ⟨l1, l2⟩ := escP_len hc3
            refine ⟨t, _, rfl, ht, rfl, ?_⟩
            walk_at "s"
            have ed : tl T (i + n) = (92 :: c :: r1).drop n := by rw [tl_add, hr0]
            refine ⟨(v, i + n, H'), ⟨l1, ex, by dsimp only; omega, ?_, o', by dsimp only; rw [ed]; exact hc4, by dsimp only; rw [Nat.add_sub_cancel_left]⟩, ⟨rfl, rfl, rfl, rfl, rfl, rfl, trivial⟩, Ext.refl _⟩
            dsimp only
            rw [ed, hr0, List.length_drop]; simp only [List.length_cons]; omega
      · obtain ⟨c, r0, hr0⟩ : ∃ c r0, tl T i = c :: r0 := by
          cases z : tl T i with
          | nil => rw [z] at h2; cases h2
          | cons c r0 => exact ⟨c, r0, rfl⟩
        have hr1 := tl_cons hr0
        have n92 : c ≠ 92 := by rw [hr0] at h3; simpa [onHd] using h3
        have nq : c ≠ q := by rw [hr0] at h'; simpa [onHd] using h'
        rw [hr0] at e4
        walk_at "s"
        walk_at "v"
        walk_at "s"
        cases e4 with
        | done => exact absurd rfl nq
        | bs => exact absurd rfl n92
        | esc => exact absurd rfl n92
        | ebad => exact absurd rfl n92
        | chr _ _ o' _ _ hqw =>
          refine ⟨([c], i + 1, H1), ⟨Nat.le_refl _, Ext.refl _, by dsimp only; omega, by dsimp only; rw [hr1, hr0]; simp, o', by dsimp only; rw [hr1]; exact hqw, by dsimp only; rw [Nat.add_sub_cancel_left]⟩, ⟨rfl, rfl, rfl, rfl, by rw [hr0]; rfl, rfl, trivial⟩, Ext.refl _⟩
    · rintro ⟨v, i', H2⟩ ⟨f1, f2, f3, f4, o', f5, f6⟩
      dsimp only at f1 f2 f3 f4 f5 f6 ⊢
      walk_at "s"
      walk_at "v"
      refine ⟨.bi "list.append", trivial, m_append (f2 _ _ e2), ?_⟩
      walk_at "v"
      refine k_append (f2 _ _ e2) (by unfold avStrs; rw [List.length_map, List.length_map]; omega) ?_
      refine ⟨rfl, ?_⟩
      walk_at "s"
      refine ⟨(i', vs ++ [v], upd H2 la (.lst (avStrs (vs.map mk) ++ [.str (mk v)]))), ⟨Ext.updNew (e1.trans f2) hla, ?_, ?_, ⟨o', f5, ?_⟩, ?_, ?_⟩, f4, ⟨rfl, rfl, rfl, rfl, rfl, trivial⟩, Ext.refl _⟩
      · dsimp only; rw [upd_same]; simp [avStrs]
      · dsimp only; omega
      · dsimp only; rw [e5, f6, QO.sh_sh, List.flatten_append]
        congr 1
        · simp
        · omega
      · dsimp only; rw [List.length_append]; simp only [List.length_cons, List.length_nil]; omega
      · dsimp only; rw [List.map_append, List.sum_append, List.length_append]; simp only [List.map_cons, List.map_nil, List.sum_cons, List.sum_nil, List.length_cons, List.length_nil]; omega
  · obtain ⟨r0, hr0⟩ : ∃ r0, tl T i = q :: r0 := by
      cases z : tl T i with
      | nil => rw [z] at h; cases h
      | cons c r0 => rw [z] at h; have : c = q := by simpa [onHd] using h
                     exact ⟨r0, by rw [this]⟩
    have hO' : O = .ok vs.flatten (i - (k + 1) + 1) := by
      rw [hr0] at e4
      cases e4 with
      | done => rw [e5]; simp [QO.sh]
      | chr _ _ _ hne _ _ => exact absurd rfl hne
      | bs => exact absurd rfl hq92
      | esc => exact absurd rfl hq92
      | ebad => exact absurd rfl hq92
    walk_at "s"
    walk_at "v"
    refine ⟨.bi "str.join", trivial, m_join, ?_⟩
    walk_at "v"
    refine k_join (ys := vs.map mk) e2 (show (Str.ofString "").length ≤ 64 by decide +kernel) ?_ ?_
    · have : (vs.map mk).map (·.length) = vs.map (·.length) := by rw [List.map_map]; exact congrArg (fun f => vs.map f) (funext mk_len)
      rw [this, List.length_map]; omega
    rw [join_mk]
    walk_at "v"
    refine ⟨Nat.le_of_ble_eq_true rfl, fun t ht => ?_⟩
    refine r _ _ hO' t _ (Ext.new e1 ht) ?_
    rw [upd_same, show ((k + 1 + (i - (k + 1) + 1) : Nat) : Int) = (i : Int) + 1 by omega]
end

section
variable {W : Wd} {fi : Fi} {dp un : Nat} {loc : Loc} {H : AH} {X : Xs} {R : AV → AH → Prop}

noncomputable def closeOf (o : Nat) : Nat := if o = 40 then 41 else if o = 91 then 93 else 125
noncomputable def isDash (c : Nat) : Bool := c == 45
noncomputable def isOpen (c : Nat) : Bool := decide (c ∈ [40, 91, 123])
theorem lit_open : Str.ofString "([{" = mk [40, 91, 123] := by decide +kernel
theorem open_tab : ∀ o ∈ [40, 91, 123], 0 ≤ Txt.find (Str.ofString "([{") (mk [o]) ∧ Txt.find (Str.ofString "([{") (mk [o]) < 3 ∧ Txt.item (Str.ofString ")]}") (Txt.find (Str.ofString "([{") (mk [o])) = mk [closeOf o] := by decide +kernel
noncomputable def rawC (q : Nat) (l : List Nat) : List Nat := closeOf ((l.drop (nd isDash l)).headD 0) :: (l.take (nd isDash l) ++ [q])
theorem rawC_len (q : Nat) (l : List Nat) : (rawC q l).length = nd isDash l + 2 := by
  unfold rawC
  have := nd_le isDash l
  rw [List.length_cons, List.length_append, List.length_take, Nat.min_eq_left this]; rfl
theorem ok_raw_string : (Callee.own 294).ok := fun w => by k_is
theorem ma_raw_string : MethAt 297 "raw_string" 294 := ⟨fun w => ⟨by k_is, by k_is, by k_is⟩⟩
theorem c_raw_string {x d ks : Addr} {T : Str} {a : Int} {nl : Bool} {k q : Nat} {l : List Nat} (lx : Lx H x d ks T a nl) (hT : T.length ≤ 1000000) (hd : dp ≤ 400) (hq : tl T (k + 1) = q :: l)
    (hf : Txt.find3 T (mk (rawC q l)) ((k + 3 + nd isDash l : Nat) : Int) < 0 ∨ ∃ j : Nat, Txt.find3 T (mk (rawC q l)) ((k + 3 + nd isDash l : Nat) : Int) = j ∧ k + 3 + nd isDash l ≤ j)
    (r : ∀ j : Nat, onHd isOpen (l.drop (nd isDash l)) = true → Txt.find3 T (mk (rawC q l)) ((k + 3 + nd isDash l : Nat) : Int) = j → ∀ t td H', Tok_ H' t td "str" (.str (mk ((tl T (k + 3 + nd isDash l)).take (j - (k + 3 + nd isDash l))))) k nl →
      Lx H' x d ks T (j + (nd isDash l + 2) : Nat) nl → Fram H H' d → R (.ref t) H')
    (er1 : onHd isOpen (l.drop (nd isDash l)) = false → X "bad_character" k)
    (er2 : onHd isOpen (l.drop (nd isDash l)) = true → Txt.find3 T (mk (rawC q l)) ((k + 3 + nd isDash l : Nat) : Int) < 0 → X "unfinished_string" k) :
    Call_OK W dp un H (.ref 294) [.ref x, .int k] R X := by
  have hq1 : tl T (k + 2) = l := tl_cons hq
  ((refine' call_def (dp' := _) (un' := _) (fnAt_of ?ho ?hcd ?a ?b ?c ?d ?ne) (binds_of ?hb) ?hl (Nat.le_refl _) (Nat.le_refl _) ?hr ?body); (case ho => intro w; k_is); (case hcd => intro w; k_is); (case a => rfl); (case b => rfl); (case c => rfl); (case d => rfl); (case ne => decide +kernel); (case hb => first | exact binds0 rfl | exact binds1 fun _ => rfl | exact binds2 fun _ _ => rfl | exact binds3 fun _ _ _ => rfl | exact binds5 fun _ _ _ _ _ => rfl); (case hl => rfl); (case hr => omega))
  walk_at "s"
  walk_at "v"
  ((refine' ⟨.own 189, ok_char, meth_inst (Lx.x ?lx) (Lx.d ?lx) ma_char rfl, ?_⟩); (case lx => assumption); (walk_at "v"))
  refine c_char (k := k + 1) lx hT (by omega) ?_
  rw [hq]
  walk_at "s"
  walk_at "v"
  refine ss_while (σ := Nat) (fun i => k + 2 ≤ i ∧ i + nd isDash (tl T i) = k + 2 + nd isDash l) (fun i => [("self", .ref x), ("at", .int k), ("quote", .str (mk [q])), ("index", .int i)]) (fun _ => H) (fun i => nd isDash (tl T i)) (k + 2) ⟨Nat.le_refl _, by rw [hq1]⟩ ⟨rfl, rfl, rfl, rfl, trivial⟩ (Ext.refl _) ?_
  rintro i ⟨hki, hi⟩
  walk_at "v"
  (((refine' ⟨.own 189, ok_char, meth_inst (Lx.x ?lx) (Lx.d ?lx) ma_char rfl, ?_⟩); (case lx => assumption); (walk_at "v")); ((refine' c_char ?lx ?hT ?hd ?_); (case lx => assumption); (case hT => assumption); (case hd => omega); (walk_at "v")))
  rw [lit_min, eq_lit, show onHd (fun d => d == 45) (tl T i) = onHd isDash (tl T i) from rfl]
  refine ⟨_, rfl, fun h => ?_, fun h => ?_⟩
  · have e := nd_pos h
    rw [← tl_add] at e
    walk_at "s"
    walk_at "v"
    walk_at "s"
    exact ⟨i + 1, ⟨by omega, by omega⟩, by omega, ⟨rfl, rfl, rfl, by simp [setL], trivial⟩, Ext.refl _⟩
  have e := nd_zero h
  have hie : i = k + 2 + nd isDash l := by omega
  subst hie
  walk_at "s"
  walk_at "v"
  ((refine' ⟨_, 297, _, _, _, rfl, Lx.x ?lx, Lx.d ?lx, ?fa, ?l1, ?l2, ?_⟩); (case lx => assumption); (case fa => first | exact fa_text | exact fa_at | exact fa_newline | exact fa_keys); (case l1 => exact rfl); (case l2 => exact rfl); (walk_at "v"))
  refine ⟨T, ((k + 2 : Nat) : Int), ((k + 2 + nd isDash l : Nat) : Int), rfl, rfl, rfl, Nat.le_trans hT (by decide), ?_⟩
  rw [slice_nat T (by omega), Nat.add_sub_cancel_left, hq1]
  walk_at "s"
  walk_at "v"
  (((refine' ⟨.own 189, ok_char, meth_inst (Lx.x ?lx) (Lx.d ?lx) ma_char rfl, ?_⟩); (case lx => assumption); (walk_at "v")); ((refine' c_char ?lx ?hT ?hd ?_); (case lx => assumption); (case hT => assumption); (case hd => omega); (walk_at "v")))
  have hl' : tl T (k + 2 + nd isDash l) = l.drop (nd isDash l) := by rw [tl_add, hq1]
  rw [hl']
  walk_at "s"
  walk_at "v"
  rw [lit_emp, eq_emp]
  refine ⟨_, rfl, ?_⟩
  (apply jTst; focus (intro _))
  · walk_at "v"
    rw [lit_open]
    exact ⟨_, rfl, rfl, rfl⟩
  have ek : ((l.drop (nd isDash l)).isEmpty || !Txt.contains (mk [40, 91, 123]) (sg (l.drop (nd isDash l)))) = !onHd isOpen (l.drop (nd isDash l)) := by
    cases z : l.drop (nd isDash l) with
    | nil => rfl
    | cons c r0 => rw [contains_sg]; rfl
  rw [ek]
  refine ⟨fun h2 => ?_, fun h2 => ?_⟩
  · walk_at "s"
    walk_at "v"
    exact ⟨_, _, rfl, er1 (by simpa using h2)⟩
  have h2' : onHd isOpen (l.drop (nd isDash l)) = true := by simpa using h2
  obtain ⟨o, r0, hr0⟩ : ∃ o r0, l.drop (nd isDash l) = o :: r0 := by
    cases z : l.drop (nd isDash l) with
    | nil => rw [z] at h2'; cases h2'
    | cons c r0 => exact ⟨c, r0, rfl⟩
  have ho : o ∈ [40, 91, 123] := by rw [hr0] at h2'; simpa [onHd, isOpen] using h2'
  obtain ⟨t1, t2, t3⟩ := open_tab o ho
  have hC : rawC q l = [closeOf o] ++ l.take (nd isDash l) ++ [q] := by unfold rawC; rw [hr0]; rfl
  have hCl := rawC_len q l
  have htl := tl_len (T := T) (k := k + 2) hT
  rw [hq1] at htl
  have hnl := nd_le isDash l
  have htk : (l.take (nd isDash l)).length = nd isDash l := by rw [List.length_take]; omega
  walk_at "s"
  walk_at "s"
  walk_at "v"
  refine ⟨.bi "str.find", trivial, m_find, ?_⟩
  walk_at "v"
  rw [hr0]
  refine k_find ?_
  refine sub_str t1 (by rw [show (Str.ofString ")]}").length = 3 by decide +kernel]; exact t2) (by decide +kernel) ?_ rfl
  rw [show sg (o :: r0) = mk [o] from rfl, t3]
  walk_at "v"
  refine b_cat ?_ ?_
  · rw [mk_len, mk_len, htk]
    exact Nat.le_trans (show [closeOf o].length + nd isDash l ≤ 1000001 by show 1 + _ ≤ _; omega) (by decide)
  walk_at "v"
  refine b_cat ?_ ?_
  · rw [mk_app, mk_len, mk_len, List.length_append, htk]
    exact Nat.le_trans (show [closeOf o].length + nd isDash l + [q].length ≤ 1000002 by show 1 + _ + 1 ≤ _; omega) (by decide)
  rw [mk_app, mk_app, ← hC]
  walk_at "s"
  walk_at "v"
  ((refine' ⟨_, 297, _, _, _, rfl, Lx.x ?lx, Lx.d ?lx, ?fa, ?l1, ?l2, ?_⟩); (case lx => assumption); (case fa => first | exact fa_text | exact fa_at | exact fa_newline | exact fa_keys); (case l1 => exact rfl); (case l2 => exact rfl); (walk_at "v"))
  refine ⟨.bi "str.find", trivial, m_find, ?_⟩
  walk_at "v"
  have ei : ((k + 2 + nd isDash l : Nat) : Int) + 1 = ((k + 3 + nd isDash l : Nat) : Int) := by omega
  rw [ei]
  refine k_find3 ?_
  walk_at "s"
  walk_at "v"
  refine ⟨_, rfl, fun h3 => ?_, fun h3 => ?_⟩
  · walk_at "s"
    walk_at "v"
    exact ⟨_, _, rfl, er2 h2' (by simpa using h3)⟩
  have h3' : ¬ Txt.find3 T (mk (rawC q l)) ((k + 3 + nd isDash l : Nat) : Int) < 0 := by simpa using h3
  obtain ⟨j, hj1, hj2⟩ := hf.resolve_left h3'
  have r' := r j h2' hj1
  rw [hj1]
  walk_at "s"
  walk_at "s"
  walk_at "v"
  refine ⟨.own 196, ok_token, meth_inst lx.x lx.d ma_token rfl, ?_⟩
  walk_at "v"
  ((refine' ⟨_, 297, _, _, _, rfl, Lx.x ?lx, Lx.d ?lx, ?fa, ?l1, ?l2, ?_⟩); (case lx => assumption); (case fa => first | exact fa_text | exact fa_at | exact fa_newline | exact fa_keys); (case l1 => exact rfl); (case l2 => exact rfl); (walk_at "v"))
  refine ⟨T, ((k + 2 + nd isDash l : Nat) : Int) + 1, (j : Int), rfl, rfl, rfl, Nat.le_trans hT (by decide), ?_⟩
  rw [ei, slice_nat T hj2]
  walk_at "v"
  refine k_lenS (by rw [mk_len, hCl]; omega) ?_
  walk_at "v"
  refine c_token lx (by omega) fun t td H' ht lx' fr => r' t td H' ht ?_ fr
  rw [mk_len, hCl] at lx'
  exact lx'
end

section
variable {W : Wd} {fi : Fi} {dp un : Nat} {loc : Loc} {H : AH} {X : Xs} {R : AV → AH → Prop}

noncomputable def numStart (l : List Nat) : Bool := onHd isD l || (onHd (fun c => c == 46) l && onHd isD (l.drop 1))
noncomputable def rawStart (l : List Nat) : Bool := onHd (fun c => decide (c ∈ [114, 82])) l && onHd (fun c => c == 39 || c == 34) (l.drop 1)
noncomputable def wordStart (l : List Nat) : Bool := onHd isL l || onHd (fun c => c == 46) l
noncomputable def quoStart (l : List Nat) : Bool := onHd (fun c => c == 34) l || onHd (fun c => c == 39) l
theorem lit_rR : Str.ofString "rR" = mk [114, 82] := by decide +kernel
theorem lit_qq : [Str.ofString "'", Str.ofString "\""] = [mk [39], mk [34]] := by decide +kernel
theorem lit_dq : Str.ofString "\"" = mk [34] := by decide +kernel
theorem lit_sq : Str.ofString "'" = mk [39] := by decide +kernel
theorem lit_bq : Str.ofString "`" = mk [96] := by decide +kernel
theorem ok_next_token : (Callee.own 203).ok := fun w => by k_is
theorem ma_next_token : MethAt 297 "next_token" 203 := ⟨fun w => ⟨by k_is, by k_is, by k_is⟩⟩
theorem c_next_token {x d ks : Addr} {T : Str} {nl0 nl : Bool} {k p : Nat} {l : List Nat} (lx : Lx H x d ks T k nl0) (hT : T.length ≤ 1000000) (hd : dp ≤ 320)
    (hp : k + (skipG false (tl T k)).1 = p) (hnl : (skipG false (tl T k)).2 = nl) (hl : tl T p = l)
    (hEof : l = [] → ∀ t td H', Tok_ H' t td "eof" (.str "") p nl → Lx H' x d ks T p nl → Fram H H' d → R (.ref t) H')
    (hNum : l ≠ [] → numStart l = true → ∀ H1, Lx H1 x d ks T p nl → Fram H H1 d → Call_OK W (dp + 1) (un + 3) H1 (.ref 245) [.ref x, .int p] R X)
    (hRaw : numStart l = false → rawStart l = true → ∀ H1, Lx H1 x d ks T p nl → Fram H H1 d → Call_OK W (dp + 1) (un + 3) H1 (.ref 294) [.ref x, .int p] R X)
    (hWord : numStart l = false → rawStart l = false → wordStart l = true → ∀ H1, Lx H1 x d ks T p nl → Fram H H1 d → Call_OK W (dp + 1) (un + 3) H1 (.ref 217) [.ref x, .int p] R X)
    (hStr : wordStart l = false → quoStart l = true → ∀ H1, Lx H1 x d ks T p nl → Fram H H1 d → Call_OK W (dp + 1) (un + 3) H1 (.ref 273) [.ref x, .int p]
      (fun v H2 => ∃ t vs n, v = .ref t ∧ H2 t = some (.tup [.str vs, .int n]) ∧ Ext H1 H2 ∧ (∀ t td H', Tok_ H' t td "str" (.str vs) p nl → Lx H' x d ks T n nl → Fram H H' d → R (.ref t) H')) X)
    (hBq : onHd (fun c => c == 96) l = true → ∀ H1, Lx H1 x d ks T p nl → Fram H H1 d → Call_OK W (dp + 1) (un + 3) H1 (.ref 273) [.ref x, .int p]
      (fun v H2 => ∃ t vs n, v = .ref t ∧ H2 t = some (.tup [.str (mk vs), .int n]) ∧ Ext H1 H2 ∧ (vs = [] → X "bad_character" p) ∧ (vs ≠ [] → ∀ t td H', Tok_ H' t td "id" (.str (mk vs)) p nl → Lx H' x d ks T n nl → Fram H H' d → R (.ref t) H')) X)
    (hPct : onHd (fun c => c == 37) l = true → ∀ H1, Lx H1 x d ks T p nl → Fram H H1 d → Call_OK W (dp + 1) (un + 3) H1 (.ref 224) [.ref x, .int p] R X)
    (hOp : l ≠ [] → numStart l = false → rawStart l = false → wordStart l = false → quoStart l = false → onHd (fun c => c == 96) l = false → onHd (fun c => c == 37) l = false → ∀ H1, Lx H1 x d ks T p nl → Fram H H1 d → Call_OK W (dp + 1) (un + 3) H1 (.ref 231) [.ref x, .int p] R X) :
    Call_OK W dp un H (.ref 203) [.ref x] R X := by
  ((refine' call_def (dp' := _) (un' := _) (fnAt_of ?ho ?hcd ?a ?b ?c ?d ?ne) (binds_of ?hb) ?hl (Nat.le_refl _) (Nat.le_refl _) ?hr ?body); (case ho => intro w; k_is); (case hcd => intro w; k_is); (case a => rfl); (case b => rfl); (case c => rfl); (case d => rfl); (case ne => decide +kernel); (case hb => first | exact binds0 rfl | exact binds1 fun _ => rfl | exact binds2 fun _ _ => rfl | exact binds3 fun _ _ _ => rfl | exact binds5 fun _ _ _ _ _ => rfl); (case hl => rfl); (case hr => omega))
  walk_at "s"
  walk_at "v"
  refine ⟨.own 210, ok_skip, meth_inst lx.x lx.d ma_skip rfl, ?_⟩
  walk_at "v"
  refine c_skip lx hT (by omega) fun H1 lx1 fr1 => ?_
  rw [hp, hnl] at lx1
  refine ⟨rfl, ?_⟩
  walk_at "s"
  walk_at "v"
  ((refine' ⟨_, 297, _, _, _, rfl, Lx.x ?lx, Lx.d ?lx, ?fa, ?l1, ?l2, ?_⟩); (case lx => assumption); (case fa => first | exact fa_text | exact fa_at | exact fa_newline | exact fa_keys); (case l1 => exact rfl); (case l2 => exact rfl); (walk_at "v"))
  walk_at "s"
  walk_at "v"
  (((refine' ⟨.own 189, ok_char, meth_inst (Lx.x ?lx) (Lx.d ?lx) ma_char rfl, ?_⟩); (case lx => assumption); (walk_at "v")); ((refine' c_char ?lx ?hT ?hd ?_); (case lx => assumption); (case hT => assumption); (case hd => omega); (walk_at "v")))
  rw [hl]
  walk_at "s"
  walk_at "v"
  rw [lit_emp, eq_emp]
  refine ⟨_, rfl, fun h => ?_, fun h => ?_⟩
  · have hn : l = [] := by simpa using h
    walk_at "s"
    walk_at "v"
    ((refine' ⟨.own 196, ok_token, meth_inst (Lx.x ?lx) (Lx.d ?lx) ma_token rfl, ?_⟩); (case lx => assumption); (walk_at "v"); (refine' c_token ?lx ?hd ?_); (case lx => assumption); (case hd => omega))
    intro t td H' ht lx' fr
    rw [← lit_emp] at ht
    exact hEof hn t td H' ht lx' (fr1.trans fr)
  have hne : l ≠ [] := by intro q; rw [q] at h; cases h
  have hl1 : tl T (p + 1) = l.drop 1 := by rw [tl_add, hl]
  walk_at "s"
  walk_at "s"
  walk_at "v"
  refine c_is_digit (by omega) ?_
  refine ⟨_, rfl, ?_⟩
  (apply jTst; focus (intro _))
  · walk_at "v"
    rw [litDot, eq_lit]
    refine ⟨_, rfl, ?_⟩
    (apply jTst; focus (intro _))
    · walk_at "v"
      ((refine' ⟨.own 189, ok_char, meth_inst (Lx.x ?lx) (Lx.d ?lx) ma_char rfl, ?_⟩); (case lx => assumption); (walk_at "v"))
      refine c_char (k := p + 1) lx1 hT (by omega) ?_
      walk_at "v"
      refine c_is_digit (by omega) ?_
      rw [hl1]
      exact ⟨_, rfl, rfl, rfl⟩
    exact ⟨rfl, rfl⟩
  rw [show (onHd isD l || (onHd (fun c => c == 46) l && onHd isD (l.drop 1))) = numStart l from rfl]
  refine ⟨fun h1 => ?_, fun h1 => ?_⟩
  · walk_at "s"
    walk_at "v"
    refine ⟨.own 245, ok_numeral, meth_inst lx1.x lx1.d ma_numeral rfl, ?_⟩
    walk_at "v"
    exact hNum hne h1 H1 lx1 fr1
  walk_at "s"
  walk_at "s"
  refine t_andX ?_
  walk_at "v"
  obtain ⟨c0, r0, hr0⟩ : ∃ c0 r0, l = c0 :: r0 := by
    cases z : l with
    | nil => exact absurd z hne
    | cons c r => exact ⟨c, r, rfl⟩
  have e1 : Txt.contains (Str.ofString "rR") (sg l) = onHd (fun c => decide (c ∈ [114, 82])) l := by rw [lit_rR, hr0, contains_sg]; rfl
  rw [e1]
  refine ⟨_, rfl, ?_⟩
  (apply jTst; focus (intro _))
  · walk_at "v"
    ((refine' ⟨.own 189, ok_char, meth_inst (Lx.x ?lx) (Lx.d ?lx) ma_char rfl, ?_⟩); (case lx => assumption); (walk_at "v"))
    refine c_char (k := p + 1) lx1 hT (by omega) ?_
    walk_at "v"
    ((refine' ⟨Nat.le_of_ble_eq_true rfl, ?_⟩); (intro _ _); (walk_at "v"))
    rw [lit_qq, any2, hl1]
    exact ⟨_, rfl, rfl, Ext.new (Ext.refl _) (by assumption)⟩
  rw [show (onHd (fun c => decide (c ∈ [114, 82])) l && onHd (fun c => c == 39 || c == 34) (l.drop 1)) = rawStart l from rfl]
  refine ⟨fun h2 => ?_, fun h2 => ?_⟩
  · walk_at "s"
    walk_at "v"
    refine ⟨.own 294, ok_raw_string, meth_inst lx1.x lx1.d ma_raw_string rfl, ?_⟩
    walk_at "v"
    exact hRaw h1 h2 H1 lx1 fr1
  walk_at "s"
  walk_at "s"
  walk_at "v"
  refine c_is_letter (by omega) ?_
  refine ⟨_, rfl, ?_⟩
  (apply jTst; focus (intro _))
  · walk_at "v"
    rw [litDot, eq_lit]
    exact ⟨_, rfl, rfl, rfl⟩
  rw [show (onHd isL l || onHd (fun c => c == 46) l) = wordStart l from rfl]
  refine ⟨fun h3 => ?_, fun h3 => ?_⟩
  · walk_at "s"
    walk_at "v"
    refine ⟨.own 217, ok_word, meth_inst lx1.x lx1.d ma_word rfl, ?_⟩
    walk_at "v"
    exact hWord h1 h2 h3 H1 lx1 fr1
  walk_at "s"
  walk_at "s"
  walk_at "v"
  rw [lit_dq, eq_lit]
  refine ⟨_, rfl, ?_⟩
  (apply jTst; focus (intro _))
  · walk_at "v"
    rw [lit_sq, eq_lit]
    exact ⟨_, rfl, rfl, rfl⟩
  rw [show (onHd (fun c => c == 34) l || onHd (fun c => c == 39) l) = quoStart l from rfl]
  refine ⟨fun h4 => ?_, fun h4 => ?_⟩
  · walk_at "s"
    walk_at "v"
    refine ⟨.own 273, ok_quoted, meth_inst lx1.x lx1.d ma_quoted rfl, ?_⟩
    walk_at "v"
    refine fun vs0 hv0 => ?_
    refine Stp.mono ?_ (hStr h3 h4 H1 lx1 fr1 vs0 hv0)
    rintro v H2 ⟨t, vs, n, rfl, ht, ex, rr⟩
    refine ⟨t, _, rfl, ht, rfl, ?_⟩
    have lx2 := lx1.ext ex
    walk_at "s"
    walk_at "v"
    ((refine' ⟨.own 196, ok_token, meth_inst (Lx.x ?lx) (Lx.d ?lx) ma_token rfl, ?_⟩); (case lx => assumption); (walk_at "v"); (refine' c_token ?lx ?hd ?_); (case lx => assumption); (case hd => omega))
    intro t td H' ht lx' fr
    exact rr t td H' ht lx' ((fr1.trans (Fram.ofExt ex _)).trans fr)
  walk_at "s"
  walk_at "s"
  walk_at "v"
  rw [lit_bq, eq_lit]
  refine ⟨_, rfl, fun h5 => ?_, fun h5 => ?_⟩
  · walk_at "s"
    walk_at "v"
    refine ⟨.own 273, ok_quoted, meth_inst lx1.x lx1.d ma_quoted rfl, ?_⟩
    walk_at "v"
    refine fun vs0 hv0 => ?_
    refine Stp.mono ?_ (hBq h5 H1 lx1 fr1 vs0 hv0)
    rintro v H2 ⟨t, vs, n, rfl, ht, ex, rx, rr⟩
    refine ⟨t, _, rfl, ht, rfl, ?_⟩
    have lx2 := lx1.ext ex
    walk_at "s"
    walk_at "v"
    rw [mk_eq]
    refine ⟨_, rfl, fun h6 => ?_, fun h6 => ?_⟩
    · walk_at "s"
      walk_at "v"
      exact ⟨_, _, rfl, rx (by simpa using h6)⟩
    · walk_at "s"
      walk_at "s"
      walk_at "v"
      ((refine' ⟨.own 196, ok_token, meth_inst (Lx.x ?lx) (Lx.d ?lx) ma_token rfl, ?_⟩); (case lx => assumption); (walk_at "v"); (refine' c_token ?lx ?hd ?_); (case lx => assumption); (case hd => omega))
      intro t td H' ht lx' fr
      exact rr (by simpa using h6) t td H' ht lx' ((fr1.trans (Fram.ofExt ex _)).trans fr)
  walk_at "s"
  walk_at "s"
  walk_at "v"
  rw [lit_pc, eq_lit]
  refine ⟨_, rfl, fun h6 => ?_, fun h6 => ?_⟩
  · walk_at "s"
    walk_at "v"
    refine ⟨.own 224, ok_percent, meth_inst lx1.x lx1.d ma_percent rfl, ?_⟩
    walk_at "v"
    exact hPct h6 H1 lx1 fr1
  walk_at "s"
  walk_at "s"
  walk_at "v"
  refine ⟨.own 231, ok_operator, meth_inst lx1.x lx1.d ma_operator rfl, ?_⟩
  walk_at "v"
  exact hOp hne h1 h2 h3 h4 h5 h6 H1 lx1 fr1
end

section
variable {W : Wd} {fi : Fi} {dp un : Nat} {loc : Loc} {H : AH} {X : Xs} {R : AV → AH → Prop}

theorem c_keywords (hd : dp ≤ 800) (r : ∀ ks, H ks = none → R (.ref ks) (upd H ks (.tup (avStrs kws)))) : Call_OK W dp un H (.ref 125) [] R X := by
  ((refine' call_def (dp' := _) (un' := _) (fnAt_of ?ho ?hcd ?a ?b ?c ?d ?ne) (binds_of ?hb) ?hl (Nat.le_refl _) (Nat.le_refl _) ?hr ?body); (case ho => intro w; k_is); (case hcd => intro w; k_is); (case a => rfl); (case b => rfl); (case c => rfl); (case d => rfl); (case ne => decide +kernel); (case hb => first | exact binds0 rfl | exact binds1 fun _ => rfl | exact binds2 fun _ _ => rfl | exact binds3 fun _ _ _ => rfl | exact binds5 fun _ _ _ _ _ => rfl); (case hl => rfl); (case hr => omega))
  walk_at "s"
  walk_at "v"
  exact ⟨Nat.le_of_ble_eq_true rfl, fun ks h => r ks h⟩
theorem cls_lex : ClsOK 297 182 := ⟨fun w => ⟨by k_is, by k_is, by k_is⟩⟩
theorem sl_text : SetAt 297 "text" := ⟨fun w => ⟨by k_is, by k_is, by k_is, by k_is⟩⟩
theorem sl_keys : SetAt 297 "keys" := ⟨fun w => ⟨by k_is, by k_is, by k_is, by k_is⟩⟩
theorem c_Lexer {T : Str} (hd : dp ≤ 700) (r : ∀ x d ks H', Lx H' x d ks T 0 false → Ext H H' → R (.ref x) H') :
    Call_OK W dp un H (.ref 297) [.str T] R X := by
  refine' call_cls_ok cls_lex (dp' := _) (un' := _) (binds := fun x => [("self", .ref x), ("text", .str T), ("at", .int 0)]) (fnAt_of ?ho ?hcd ?a ?b ?c ?d ?ne) ?hb ?hl (Nat.le_refl _) (Nat.le_refl _) ?hr ?body
  case ho => intro w; k_is
  case hcd => intro w; k_is
  case a => rfl
  case b => rfl
  case c => rfl
  case d => rfl
  case ne => decide +kernel
  case hb =>
    intro x vs s hv hK
    obtain ⟨v1, v2, rfl, h1, h2⟩ := vrs2 hv
    exact ⟨[("self", v1), ("text", v2), ("at", _)], binds_K (show (Mine.hd.heap_39 W.w.params).In s.heap from hK) rfl (by k_is) rfl rfl rfl, ⟨rfl, h1⟩, ⟨rfl, h2⟩, ⟨rfl, ⟨_, rfl⟩⟩, trivial⟩
  case hl => intro x; rfl
  case hr => omega
  intro x d hx hd' hne
  have hne' : d ≠ x := Ne.symm hne
  walk_at "s"
  walk_at "v"
  refine put_ok (x := x) (C := 297) (d := d) (fs := []) (by rw [upd_same]) (by rw [upd_ne _ _ hne', upd_same]) sl_text (by simp) ?_
  walk_at "s"
  walk_at "v"
  refine put_ok (x := x) (C := 297) (d := d) (fs := [("text", .str T)]) (by rw [upd_ne _ _ hne, upd_same]) (by rw [upd_same]; rfl) sl_at (by simp) ?_
  walk_at "s"
  walk_at "v"
  refine put_ok (x := x) (C := 297) (d := d) (fs := [("text", .str T), ("at", .int 0)]) (by rw [upd_upd, upd_ne _ _ hne, upd_same]) (by rw [upd_same]; rfl) sl_newline (by simp) ?_
  walk_at "s"
  walk_at "v"
  refine c_keywords (by omega) fun ks hks => ?_
  have k1 : ks ≠ d := fun q => by subst q; rw [upd_same] at hks; cases hks
  have k2 : ks ≠ x := fun q => by subst q; rw [upd_upd, upd_upd, upd_ne _ _ hne, upd_same] at hks; cases hks
  walk_at "v"
  refine put_ok (x := x) (C := 297) (d := d) (fs := [("text", .str T), ("at", .int 0), ("newline", .bool false)]) (by rw [upd_ne _ _ (Ne.symm k2), upd_upd, upd_upd, upd_ne _ _ hne, upd_same]) (by rw [upd_ne _ _ (Ne.symm k1), upd_same]; rfl) sl_keys (by simp) ?_
  walk_at "s"
  refine ⟨trivial, r x d ks _ ⟨?_, ?_, ?_⟩ ?_⟩
  · rw [upd_ne _ _ hne, upd_ne _ _ (Ne.symm k2), upd_upd, upd_upd, upd_ne _ _ hne, upd_same]
  · rw [upd_same]; rfl
  · rw [upd_ne _ _ k1, upd_same]
  · refine Ext.updNew ?_ hd'
    refine Ext.updNew ?_ ?_
    · exact Ext.updNew (Ext.updNew (Ext.updNew (Ext.updNew (Ext.updNew (Ext.refl _) hd') hx) hd') hd') hd'
    · cases z : H ks with
      | none => rfl
      | some o =>
        have := Ext.updNew (o := .dict (putF "newline" (.bool false) [("text", .str T), ("at", .int 0)])) (Ext.updNew (o := .dict (putF "at" (.int 0) [("text", .str T)])) (Ext.updNew (o := .dict (putF "text" (.str T) [])) (Ext.updNew (o := .inst 297 d) (Ext.updNew (o := .dict []) (Ext.refl H) hd') hx) hd') hd') hd' ks o z
        rw [this] at hks; cases hks
end

section
variable {W : Wd} {fi : Fi} {dp un : Nat} {loc : Loc} {H : AH} {X : Xs} {R : AV → AH → Prop} {h₀ h : Heap} {L : Addr} {m : Str → Option Value} {led pv : List (Addr × Obj)}

theorem k_lenL {a : Addr} {vs : List AV} (e : H a = some (.lst vs)) (hl : vs.length ≤ 1000000) (r : R (.int vs.length) H) : Call_OK W dp un H (.builtin "len") [.ref a] R X := by
  intro vs' hvs
  obtain ⟨_, rfl, h1⟩ := vrs1 hvs
  cases h1
  constructor
  intro fi A A₀ base h₀ outer L m led pv s Q E am hp hQ hE
  obtain ⟨ws, ht, hv⟩ := hp.lst e
  have hsz : ws.toArray.size = vs.length := by rw [List.size_toArray, vrs_len hv]
  refine len_list ht (by omega) ?_
  rw [hsz]
  exact hQ _ _ _ _ s.heap _ r ⟨_, rfl⟩ hp
theorem i_div {a b : Int} (hb : b ≠ 0) (hd : Builtin.divisionGoesByPylong a b = false) (r : R (.int (Int.fdiv a b)) H) : InpOK W dp un H .FloorDiv (.int a) (.int b) R X := by
  rintro _ _ ⟨t, rfl⟩ ⟨u, rfl⟩
  constructor
  intro fi A A₀ base h₀ outer L m led pv s Q E am hp hQ hE
  exact ifloordiv_int hb (hQ _ _ _ _ s.heap _ r ⟨_, rfl⟩ hp) (.inl hd)
theorem k_split {x y : Str} (hy : (y.length == 0) = false) (hl : x.length ≤ 100000) (r : ∀ a, H a = none → R (.ref a) (upd H a (.lst (avStrs (Txt.split x y))))) : Call_OK W dp un H (.builtin "str.split") [.str x, .str y] R X := by
  intro vs hvs
  obtain ⟨_, _, rfl, ⟨t, rfl⟩, ⟨u, rfl⟩⟩ := vrs2 hvs
  constructor
  intro fi A A₀ base h₀ outer L m led pv s Q E am hp hQ hE
  have hlt : ∀ p ∈ led, p.1 < s.heap.objs.size := fun p hpp => Heap.lt_size (hp.nw p hpp).1
  refine splitN1 hp.fr hp.nw hy (fun l h' k e F N => ?_) (by rw [sizeLine_eq]; omega)
  refine hQ _ _ _ _ h' k (r _ (hp.fresh hlt)) rfl (hp.new (led := led) ⟨strValues l, 0, rfl, ?_⟩ F N hlt)
  rw [← e]
  clear e N F
  induction l with
  | nil => trivial
  | cons p l ih => exact ⟨⟨p.2, rfl⟩, ih⟩

noncomputable def setNth : List AV → Nat → AV → List AV
  | [], _, _ => []
  | _ :: r, 0, v => v :: r
  | x :: r, n + 1, v => x :: setNth r n v
theorem setNth_vr {v : AV} {w : Value} (hv : VR v w) : ∀ {vs : List AV} {ws : List Value} {j : Nat}, VRs vs ws → VRs (setNth vs j v) (ws.set j w)
  | [], [], _, _ => trivial
  | _ :: _, _ :: _, 0, ⟨_, h⟩ => ⟨hv, h⟩
  | _ :: _, _ :: _, j + 1, ⟨h1, h⟩ => ⟨h1, setNth_vr hv h⟩
  | [], _ :: _, _, h => h.elim
  | _ :: _, [], _, h => h.elim

/-- a store into a list -/
theorem set_item {A A₀ : Around} {base : Heap} {outer : List Env} {s : Shared} {a : Addr} {vs : List AV} {k : Int} {t : Tok} {v : AV} {w : Value} {Q : Unit → Shared → Prop} {E : Value → Shared → Prop} (am : Amb W fi dp un A A₀ base h₀ outer L) (hp : Hp W h₀ L m led pv H s.heap)
    (e : H a = some (.lst vs)) (h0 : 0 ≤ k) (h1 : k < vs.length) (hl : vs.length ≤ 1000000) (hv : VR v w)
    (hQ : ∀ led' h', Hp W h₀ L m led' pv (Mine.upd H a (.lst (setNth vs k.toNat v))) h' → Q () { s with heap := h' }) : wpAny (MD W) A (setItem (.ref a) (.int k t) w) Q E s := by
  obtain ⟨ob, m1, ws, n, rfl, hvs⟩ := hp.hp a _ e
  have hlen := vrs_len hvs
  have hsz : k < ws.toArray.size := by rw [List.size_toArray]; omega
  refine ki_setAt (n := n) (items := ws.toArray) (hp.nw _ m1).1 h0 (by omega) hsz ?_
  have e1 : Obj.mapSeq (·.setIfInBounds k.toNat w) (PySem.W.listOf ws.toArray n) = { cls := .type "list", data := .seq (ws.set k.toNat w).toArray n } := by
    simp [Obj.mapSeq, PySem.W.listOf]
  obtain ⟨F, N⟩ := hp.upd m1 e1 rfl
  exact hQ _ _ (hp.update (by rw [e]; rfl) m1 ⟨_, _, rfl, setNth_vr hv hvs⟩ F N)

theorem s_subput {o i value : Expr} {p pos : Pos} {R : AF → Loc → AH → Prop}
    (h : WpE W fi dp un loc H value (fun v H1 => WpE W fi dp un loc H1 o (fun ov H2 => WpE W fi dp un loc H2 i (fun iv H3 => ∃ a vs k, ov = .ref a ∧ iv = .int k ∧ H3 a = some (.lst vs) ∧ 0 ≤ k ∧ k < vs.length ∧ vs.length ≤ 1000000 ∧ R .next loc (Mine.upd H3 a (.lst (setNth vs k.toNat v)))) X) X) X)
    (hs : ∀ env, swapsWith value (some (.Subscript o i p)) pos.line env = pure false) : WpS W fi dp un loc H (.Assign [.Subscript o i p] value pos) R X := by
  constructor
  intro A A₀ base h₀ outer L m led pv s Q E am lr hp hQ hE
  refine wpAny_Assign_Subscript (h.run A A₀ base h₀ outer L m led pv s _ E am lr hp (fun v av H1 led1 h1 tk1 r1 v1 hp1 => ?_) (hE m)) (hs _)
  refine r1.run A A₀ base h₀ outer L m led1 pv _ _ E am lr hp1 (fun v2 av2 H2 led2 h2 tk2 r2 vr2 hp2 => ?_) (hE m)
  refine r2.run A A₀ base h₀ outer L m led2 pv _ _ E am lr hp2 (fun v3 av3 H3 led3 h3 tk3 r3 vr3 hp3 => ?_) (hE m)
  obtain ⟨a, vs, k, rfl, rfl, e, h0, h1', hl, r⟩ := r3
  cases vr2
  obtain ⟨t, rfl⟩ := vr3
  exact set_item am hp3 e h0 h1' hl v1 fun led' h' hp' => hQ _ _ _ m _ led' h' tk3 r rfl lr hp'
theorem s_subaug {o i value : Expr} {p pos : Pos} {op : Operator} {R : AF → Loc → AH → Prop}
    (h : WpE W fi dp un loc H o (fun ov H1 => WpE W fi dp un loc H1 i (fun iv H2 => ∃ a vs k old, ov = .ref a ∧ iv = .int k ∧ H2 a = some (.lst vs) ∧ 0 ≤ k ∧ k < vs.length ∧ vs.length ≤ 1000000 ∧ vs[k.toNat]? = some old ∧
      WpE W fi dp un loc H2 value (fun v H3 => InpOK W dp un H3 op old v (fun r H4 => H4 a = some (.lst vs) ∧ R .next loc (Mine.upd H4 a (.lst (setNth vs k.toNat r)))) X) X) X) X)
    (hi : ∀ ov iv new, augStore i ov iv new = (do holding [new, ov, iv] (setItem ov iv new); release [new, ov, iv] []; pure .next)) : WpS W fi dp un loc H (.AugAssign (.Subscript o i p) op value pos) R X := by
  constructor
  intro A A₀ base h₀ outer L m led pv s Q E am lr hp hQ hE
  refine wpAny_AugAssign_SubscriptAny (h.run A A₀ base h₀ outer L m led pv s _ E am lr hp (fun v av H1 led1 h1 tk1 r1 v1 hp1 => ?_) (hE m)) hi
  refine r1.run A A₀ base h₀ outer L m led1 pv _ _ E am lr hp1 (fun v2 av2 H2 led2 h2 tk2 r2 vr2 hp2 => ?_) (hE m)
  obtain ⟨a, vs, k, old, rfl, rfl, e, h0, h1', hl, ho, r⟩ := r2
  cases v1
  obtain ⟨t, rfl⟩ := vr2
  obtain ⟨ws, ht, hv⟩ := hp2.lst e
  obtain ⟨w, hw, hvw⟩ := vrs_get hv ho
  refine wpAny_getItem_list ht h0 (by omega) (x := w) (by rw [List.getElem?_toArray]; exact hw) ?_
  refine r.run A A₀ base h₀ outer L m led2 pv _ _ E am lr hp2 (fun v3 av3 H3 led3 h3 tk3 r3 vr3 hp3 => ?_) (hE m)
  refine (r3 w v3 hvw vr3).run fi A A₀ base h₀ outer L m led3 pv _ _ E am hp3 (fun v4 av4 H4 led4 h4 tk4 r4 vr4 hp4 => ?_) (hE m)
  exact set_item am hp4 r4.1 h0 h1' hl vr4 fun led' h' hp' => hQ _ _ _ m _ led' h' tk4 r4.2 rfl lr hp'

/-! what a value is as data -/
mutual
inductive Den (H : AH) : AV → PyData → Prop
  | none : Den H .none .none
  | bool (b : Bool) : Den H (.bool b) (.bool b)
  | int (i : Int) : Den H (.int i) (.int i)
  | str (x : Str) : Den H (.str x) (.str x)
  | lst {a : Addr} {vs : List AV} {ds : List PyData} : H a = some (.lst vs) → Dens H vs ds → Den H (.ref a) (.list ds)
  | tup {a : Addr} {vs : List AV} {ds : List PyData} : H a = some (.tup vs) → Dens H vs ds → Den H (.ref a) (.tuple ds)
inductive Dens (H : AH) : List AV → List PyData → Prop
  | nil : Dens H [] []
  | cons {v : AV} {vs : List AV} {d : PyData} {ds : List PyData} : Den H v d → Dens H vs ds → Dens H (v :: vs) (d :: ds)
end
mutual
theorem Den.reads (hp : Hp W h₀ L m led pv H h) {av : AV} {d : PyData} {v : Value} (x : Den H av d) (hv : VR av v) : ∃ as, Reads h v d as := by
  cases x with
  | none => cases hv; exact ⟨_, .none⟩
  | bool b => cases hv; exact ⟨_, .bool b⟩
  | int i => obtain ⟨t, rfl⟩ := hv; exact ⟨_, .int i t⟩
  | str x => obtain ⟨t, rfl⟩ := hv; exact ⟨_, .str x t⟩
  | lst e r =>
    cases hv
    obtain ⟨ob, m1, ws, n, rfl, hvs⟩ := hp.hp _ _ e
    obtain ⟨as, q⟩ := Dens.reads hp r hvs
    exact ⟨_, .list (hp.nw _ m1).1 rfl rfl q⟩
  | tup e r =>
    cases hv
    obtain ⟨ob, m1, ws, n, rfl, hvs⟩ := hp.hp _ _ e
    obtain ⟨as, q⟩ := Dens.reads hp r hvs
    exact ⟨_, .tuple (hp.nw _ m1).1 rfl rfl q⟩
theorem Dens.reads (hp : Hp W h₀ L m led pv H h) {avs : List AV} {ds : List PyData} {vs : List Value} (x : Dens H avs ds) (hv : VRs avs vs) : ∃ as, ReadsAll h vs ds as := by
  cases x with
  | nil => cases vrs0 hv; exact ⟨_, .nil⟩
  | cons a b =>
    obtain ⟨v, r, rfl, h1, h2⟩ := vrsC hv
    obtain ⟨_, q1⟩ := Den.reads hp a h1
    obtain ⟨_, q2⟩ := Dens.reads hp b h2
    exact ⟨_, .cons q1 q2⟩
end
mutual
theorem Den.ext {H H' : AH} (x : Ext H H') {av : AV} {d : PyData} (q : Den H av d) : Den H' av d := by
  cases q with
  | none => exact .none
  | bool b => exact .bool b
  | int i => exact .int i
  | str s => exact .str s
  | lst e r => exact .lst (x _ _ e) (Dens.ext x r)
  | tup e r => exact .tup (x _ _ e) (Dens.ext x r)
theorem Dens.ext {H H' : AH} (x : Ext H H') {avs : List AV} {ds : List PyData} (q : Dens H avs ds) : Dens H' avs ds := by
  cases q with
  | nil => exact .nil
  | cons a b => exact .cons (Den.ext x a) (Dens.ext x b)
end
theorem c_neD {a b : AV} {da db : PyData} (ra : Den H a da) (rb : Den H b db) (ha : SeqAt.shaped da = true) (hb : SeqAt.shaped db = true) (hun : un ≤ 5000) (r : R (.bool (!PyData.eqv da db)) H) : CmpOK W dp un H .NotEq a b R X := by
  intro va vb v1 v2
  constructor
  intro fi A A₀ base h₀ outer L m led pv s Q E am hp hQ hE
  obtain ⟨as, q1⟩ := ra.reads hp v1
  obtain ⟨bs, q2⟩ := rb.reads hp v2
  exact SeqAt.compareNe_shaped q1 q2 ha hb (by have := am.units; show A.units + 64 < 9900; omega) (hQ _ _ _ _ s.heap s.toks r rfl hp)
/-- for, with one state behind it for both ways out -/
theorem ss_forJ {σ τ : Type} {x : Str} {xp : Pos} {iter : Expr} {body rest : List Stmt} {pos : Pos} {R : AF → Loc → AH → Prop} (J : τ → Prop) (lj : τ → List (Str × AV)) (hj : τ → AH) (hl : locIn fi.scope x = true) (hs : ∀ env v, foldedSetIterable iter env v = pure v)
    (h : WpE W fi dp un loc H iter (fun v H1 => ∃ (items : List AV) (H2 : AH) (I : Nat → σ → Prop) (le : σ → List (Str × AV)) (he : σ → AH) (s0 : σ),
      ((∃ xs : Str, v = .str xs ∧ items = xs.cps.toList.map (fun c => .str (mk [c])) ∧ H2 = H1) ∨ (∃ a n, v = .ref a ∧ H1 a = some (.rng n) ∧ 0 ≤ n ∧ n ≤ 1000000 ∧ items = (List.range n.toNat).map (fun i => .int (i : Nat)) ∧ H2 = H1) ∨
        (∃ a, v = .ref a ∧ H1 a = some (.lst items) ∧ H2 = fun b => if b = a then none else H1 b)) ∧
      I 0 s0 ∧ SubL (le s0) loc ∧ Ext (he s0) H2 ∧
      (∀ k st av, I k st → items[k]? = some av → WpSS W fi dp un (setL (locOf (le st)) x av) (he st) body (fun f loc2 H3 => match f with
        | .next | .cont => ∃ st', I (k + 1) st' ∧ SubL (le st') loc2 ∧ Ext (he st') H3
        | .brk => ∃ st', J st' ∧ SubL (lj st') loc2 ∧ Ext (hj st') H3
        | .ret v => R (.ret v) loc2 H3) X) ∧
      (∀ st, I items.length st → ∃ st', J st' ∧ SubL (lj st') (locOf (le st)) ∧ Ext (hj st') (he st))) X)
    (k : ∀ st, J st → WpSS W fi dp un (locOf (lj st)) (hj st) rest R X) :
    WpSS W fi dp un loc H (.For (.Name x xp) iter body [] pos :: rest) R X := by
  refine ss_forG (σ := σ) hl hs (h.mono fun v H1 r => ?_)
  obtain ⟨items, H2, I, le, he, s0, h1, h2, h3, h4, h5, h6⟩ := r
  refine ⟨items, H2, I, le, he, s0, h1, h2, h3, h4, fun i st av hI ha => (h5 i st av hI ha).mono fun f loc2 H3 r => ?_, fun st hI => ?_⟩
  · cases f with
    | next => exact r
    | cont => exact r
    | brk => obtain ⟨st', hJ, hs, hx⟩ := r; exact WpF.ext hx (WpF.sub (sub_of hs) (k st' hJ))
    | ret v => exact r
  · obtain ⟨st', hJ, hs, hx⟩ := h6 st hI
    exact WpF.ext hx (WpF.sub (sub_of hs) (k st' hJ))
end

section
variable {W : Wd} {fi : Fi} {dp un : Nat} {loc : Loc} {H : AH} {X : Xs} {R : AV → AH → Prop}

/-- the pool: its figures' list, the place in it, the mix -/
structure Pl (H : AH) (p F : Addr) : Prop where
  ok : ∃ (fs : List Int) (i mx : Int), H p = some (.lst [.ref F, .int i, .int mx]) ∧ F ≠ p ∧ H F = some (.lst (fs.map AV.int)) ∧ (∀ f ∈ fs, (0 : Int) ≤ f) ∧ 0 ≤ i ∧ 0 ≤ mx ∧ fs.length ≤ 500
noncomputable def Keep (p : Addr) (H H' : AH) : Prop := ∀ a o, a ≠ p → H a = some o → H' a = some o
theorem Keep.refl (p : Addr) (H : AH) : Keep p H H := fun _ _ _ h => h
theorem Keep.trans {p : Addr} {H H' H'' : AH} (h : Keep p H H') (h' : Keep p H' H'') : Keep p H H'' := fun a o n e => h' a o n (h a o n e)
theorem Keep.of_ext {p : Addr} {H H' : AH} (h : Ext H H') : Keep p H H' := fun a o _ e => h a o e
theorem keep_upd (p : Addr) (H : AH) (o : AO) : Keep p H (upd H p o) := fun a o' n e => by rw [upd_ne _ _ n]; exact e
theorem Pl.ext {H H' : AH} {p F : Addr} (h : Pl H p F) (x : Ext H H') : Pl H' p F := by
  obtain ⟨fs, i, mx, h1, h2, h3, r⟩ := h.ok
  exact ⟨fs, i, mx, x _ _ h1, h2, x _ _ h3, r⟩

theorem fmod_nat {a b : Int} (hb : 0 < b) : ∃ n : Nat, Int.fmod a b = n ∧ (n : Int) < b := by
  have h1 := Int.fmod_nonneg_of_pos a hb
  have h2 := Int.fmod_lt_of_pos a hb
  exact ⟨(Int.fmod a b).toNat, by omega, by omega⟩

theorem c_pick {p F : Addr} {b : Int} (hd : dp ≤ 800) (hb : 0 < b) (hP : Pl H p F) (r : ∀ n : Nat, (n : Int) < b → ∀ H', Pl H' p F → Keep p H H' → R (.int n) H') : Call_OK W dp un H (.ref 315) [.ref p, .int b] R X := by
  obtain ⟨fs, i, mx, h1, h2, h3, h4, h5, h6, h7⟩ := hP.ok
  have fin : ∀ (f : Int) H', Pl H' p F → Keep p H H' → R (.int (Int.fmod f b)) H' := fun f H' a k => by
    obtain ⟨n, e, l⟩ := fmod_nat (a := f) hb
    rw [e]; exact r n l H' a k
  ((refine' call_def (dp' := _) (un' := _) (fnAt_of ?ho ?hcd ?a ?b ?c ?d ?ne) (binds_of ?hb) ?hl (Nat.le_refl _) (Nat.le_refl _) ?hr ?body); (case ho => intro w; k_is); (case hcd => intro w; k_is); (case a => rfl); (case b => rfl); (case c => rfl); (case d => rfl); (case ne => decide +kernel); (case hb => first | exact binds0 rfl | exact binds1 fun _ => rfl | exact binds2 fun _ _ => rfl | exact binds3 fun _ _ _ => rfl | exact binds5 fun _ _ _ _ _ => rfl); (case hl => rfl); (case hr => omega))
  walk_at "s"
  walk_at "v"
  refine sub_lst (v := .int i) h1 (by decide) (by decide) rfl ?_ rfl
  walk_at "v"
  refine sub_lst (v := .ref F) h1 (by decide) (by decide) rfl ?_ rfl
  walk_at "v"
  refine k_lenL h3 (by rw [List.length_map]; omega) ?_
  walk_at "v"
  rw [List.length_map]
  refine ⟨_, rfl, fun hlt => ?_, fun hge => ?_⟩
  · have hlt' : i < fs.length := by simpa using hlt
    obtain ⟨f, hf⟩ : ∃ f, fs[i.toNat]? = some f := ⟨_, List.getElem?_eq_getElem (by omega)⟩
    walk_at "s"
    walk_at "v"
    refine sub_lst (v := .ref F) h1 (by decide) (by decide) rfl ?_ rfl
    walk_at "v"
    refine sub_lst (v := .int i) h1 (by decide) (by decide) rfl ?_ rfl
    walk_at "v"
    refine sub_lst (v := .int f) h3 h5 (by omega) (by rw [List.getElem?_map, hf]; rfl) ?_ rfl
    walk_at "s"
    walk_at "v"
    refine ⟨p, _, 1, .int i, rfl, rfl, h1, by decide, by simp, by simp, rfl, ?_⟩
    walk_at "v"
    refine ⟨h1, ?_⟩
    walk_at "s"
    walk_at "s"
    walk_at "v"
    exact fin _ _ ⟨fs, i + 1, mx, upd_same _ _ _, h2, by rw [upd_ne _ _ h2]; exact h3, h4, by omega, h6, h7⟩ (keep_upd _ _ _)
  · walk_at "s"
    walk_at "v"
    refine sub_lst (v := .ref F) h1 (by decide) (by decide) rfl ?_ rfl
    walk_at "v"
    refine k_lenL h3 (by rw [List.length_map]; omega) ?_
    walk_at "v"
    refine ⟨_, rfl, fun _ => ?_, fun _ => ?_⟩
    · walk_at "s"
      walk_at "v"
      walk_at "s"
      walk_at "s"
      walk_at "s"
      walk_at "v"
      exact fin _ _ hP (.refl _ _)
    · walk_at "s"
      walk_at "v"
      refine sub_lst (v := .int mx) h1 (by decide) (by decide) rfl ?_ rfl
      walk_at "v"
      refine ⟨p, _, 2, rfl, rfl, h1, by decide, by simp, by simp, ?_⟩
      have hP' : Pl (upd H p (.lst (setNth [.ref F, .int i, .int mx] (Int.toNat 2) (.int (Int.fmod (mx * 37 + 11) 1009))))) p F :=
        ⟨fs, i, Int.fmod (mx * 37 + 11) 1009, upd_same _ _ _, h2, by rw [upd_ne _ _ h2]; exact h3, h4, h5, Int.fmod_nonneg_of_pos _ (by decide), h7⟩
      walk_at "s"
      walk_at "v"
      refine sub_lst (v := .int (Int.fmod (mx * 37 + 11) 1009)) (upd_same _ _ _) (by decide) (by decide) rfl ?_ rfl
      walk_at "s"
      walk_at "s"
      walk_at "s"
      walk_at "v"
      exact fin _ _ hP' (keep_upd _ _ _)
end

section
variable {W : Wd} {fi : Fi} {dp un : Nat} {loc : Loc} {H : AH} {X : Xs} {R : AV → AH → Prop}
theorem fdiv_nn {a : Int} (h : 0 ≤ a) : 0 ≤ Int.fdiv a 840 := Int.fdiv_nonneg h (by decide)
theorem abs_nn (a : Int) : 0 ≤ (if a < 0 then -a else a) := by split <;> omega

theorem c_pool {ns : List Int} (hd : dp ≤ 800) (hs : VRs (ns.map .int) W.scrV) (hl : W.scrV.length ≤ 1000) (r : ∀ p F H', Pl H' p F → Ext H H' → H p = none → R (.ref p) H') : Call_OK W dp un H (.ref 308) [.ref W.scr] R X := by
  ((refine' call_def (dp' := _) (un' := _) (fnAt_of ?ho ?hcd ?a ?b ?c ?d ?ne) (binds_of ?hb) ?hl (Nat.le_refl _) (Nat.le_refl _) ?hr ?body); (case ho => intro w; k_is); (case hcd => intro w; k_is); (case a => rfl); (case b => rfl); (case c => rfl); (case d => rfl); (case ne => decide +kernel); (case hb => first | exact binds0 rfl | exact binds1 fun _ => rfl | exact binds2 fun _ _ => rfl | exact binds3 fun _ _ _ => rfl | exact binds5 fun _ _ _ _ _ => rfl); (case hl => rfl); (case hr => omega))
  walk_at "s"
  walk_at "v"
  refine ⟨by simp, fun F hF => ?_⟩
  walk_at "s"
  walk_at "v"
  refine ss_forJ (σ := List Int × Int) (τ := List Int × Int) (fun st => (∀ f ∈ st.1, (0 : Int) ≤ f) ∧ st.1.length ≤ 500 ∧ 0 ≤ st.2) (fun st => [("figures", .ref F), ("mix", .int st.2)]) (fun st => Mine.upd H F (.lst (st.1.map AV.int))) rfl (fun _ _ => rfl) ?_ ?_
  · refine e_script (n := 40) (fun _ _ => rfl) ?_
    walk_at "v"
    refine ⟨ns, rfl, rfl, hs, hl, fun a ha => ?_⟩
    have haF : a ≠ F := fun q => by subst q; rw [upd_same] at ha; cases ha
    refine ⟨(ns.take 40).map AV.int, _, fun _ st => (∀ f ∈ st.1, (0 : Int) ≤ f) ∧ st.1.length ≤ 400 ∧ 0 ≤ st.2, fun st => [("figures", .ref F), ("mix", .int st.2)], fun st => Mine.upd H F (.lst (st.1.map AV.int)), ([], 5), .inr (.inr ⟨a, rfl, upd_same _ _ _, rfl⟩), ?_, ?_, ?_, ?_, ?_⟩
    · exact ⟨by simp, by simp, by decide⟩
    · exact ⟨rfl, rfl, trivial⟩
    · intro b o e
      have hb : b ≠ a := fun q => by subst q; replace e : Mine.upd H F (.lst []) b = some o := e; rw [ha] at e; cases e
      dsimp only
      rw [if_neg hb, upd_ne _ _ hb]
      exact e
    · rintro k ⟨figs, mx⟩ av ⟨i1, i2, i3⟩ hav
      obtain ⟨c, hc, rfl⟩ : ∃ c, (ns.take 40)[k]? = some c ∧ av = .int c := by
        rw [List.getElem?_map] at hav
        cases e : (ns.take 40)[k]? with
        | none => rw [e] at hav; cases hav
        | some c => rw [e] at hav; cases hav; exact ⟨c, rfl, rfl⟩
      dsimp only at i1 i2 i3
      walk_at "s"
      walk_at "v"
      walk_at "s"
      walk_at "v"
      walk_at "s"
      walk_at "v"
      have hmx : 0 ≤ Int.fmod (mx * 31 + c) 1009 := Int.fmod_nonneg_of_pos _ (by decide)
      refine ss_forJ (σ := List Int × Int) (τ := List Int) (fun fs => (∀ f ∈ fs, (0 : Int) ≤ f) ∧ fs.length ≤ 460) (fun fs => [("figures", .ref F), ("mix", .int (Int.fmod (mx * 31 + c) 1009))]) (fun fs => Mine.upd H F (.lst (fs.map AV.int))) rfl (fun _ _ => rfl) ?_ ?_
      · walk_at "v"
        refine k_range fun g hg => ?_
        have hgF : g ≠ F := fun q => by subst q; dsimp only at hg; rw [upd_same] at hg; cases hg
        refine ⟨_, _, fun k (st : List Int × Int) => (∀ f ∈ st.1, (0 : Int) ≤ f) ∧ st.1.length ≤ 400 + k ∧ 0 ≤ st.2, fun st => [("figures", .ref F), ("mix", .int (Int.fmod (mx * 31 + c) 1009)), ("rest", .int st.2)], fun st => Mine.upd H F (.lst (st.1.map AV.int)), (figs, _), .inr (.inl ⟨g, 60, rfl, upd_same _ _ _, by decide, by decide, rfl, rfl⟩), ⟨i1, i2, abs_nn c⟩, ⟨rfl, rfl, rfl, trivial⟩, ?_, ?_, ?_⟩
        · exact Ext.new (Ext.refl _) hg
        · rintro k2 ⟨fs, rs⟩ av2 ⟨j1, j2, j3⟩ hav2
          have hk2 : k2 < 60 := by
            have := (List.getElem?_eq_some_iff.mp hav2).1
            simpa using this
          dsimp only at j1 j2 j3
          walk_at "s"
          walk_at "v"
          refine ⟨.bi "list.append", trivial, m_append (upd_same _ _ _), ?_⟩
          walk_at "v"
          refine k_append (upd_same _ _ _) (by rw [List.length_map]; dsimp only; omega) ⟨rfl, ?_⟩
          rw [upd_upd]
          walk_at "s"
          walk_at "v"
          refine i_div (by decide) (PyProof.noPylong_of_log2 (by decide +kernel)) ?_
          have n1 : ∀ f ∈ fs ++ [Int.fmod rs 840], (0 : Int) ≤ f := fun f hf => by
            rcases List.mem_append.mp hf with hf | hf
            · exact j1 f hf
            · rw [List.mem_singleton.mp hf]; exact Int.fmod_nonneg_of_pos _ (by decide)
          have n2 : (fs ++ [Int.fmod rs 840]).length ≤ 400 + (k2 + 1) := by rw [List.length_append]; show fs.length + 1 ≤ _; omega
          have n3 : (fs.map AV.int ++ [AV.int (Int.fmod rs 840)]) = (fs ++ [Int.fmod rs 840]).map AV.int := by simp
          rw [n3]
          walk_at "s"
          walk_at "v"
          refine ⟨_, rfl, fun _ => ?_, fun _ => ?_⟩
          · walk_at "s"
            exact ⟨fs ++ [Int.fmod rs 840], ⟨n1, by omega⟩, ⟨rfl, rfl, trivial⟩, Ext.refl _⟩
          · walk_at "s"
            walk_at "s"
            exact ⟨(fs ++ [Int.fmod rs 840], Int.fdiv rs 840), ⟨n1, n2, fdiv_nn j3⟩, ⟨rfl, rfl, rfl, trivial⟩, Ext.refl _⟩
        · rintro ⟨fs, rs⟩ ⟨j1, j2, j3⟩
          exact ⟨fs, ⟨j1, by simpa using j2⟩, ⟨rfl, rfl, trivial⟩, Ext.refl _⟩
      · rintro fs ⟨j1, j2⟩
        walk_at "s"
        walk_at "v"
        refine k_lenL (upd_same _ _ _) (by rw [List.length_map]; omega) ?_
        walk_at "v"
        rw [List.length_map]
        refine ⟨_, rfl, fun _ => ?_, fun hf => ?_⟩
        · walk_at "s"
          exact ⟨(fs, _), ⟨j1, by dsimp only; omega, hmx⟩, ⟨rfl, rfl, trivial⟩, Ext.refl _⟩
        · walk_at "s"
          walk_at "s"
          exact ⟨(fs, _), ⟨j1, by have hf' : (fs.length : Int) ≤ 400 := (by simpa using hf); dsimp only; omega, hmx⟩, ⟨rfl, rfl, trivial⟩, Ext.refl _⟩
    · rintro ⟨fs, mx⟩ ⟨j1, j2, j3⟩
      exact ⟨(fs, mx), ⟨j1, by dsimp only at j2 ⊢; omega, j3⟩, ⟨rfl, rfl, trivial⟩, Ext.refl _⟩
  · rintro ⟨figs, mx⟩ ⟨hf, hlen, hm⟩
    dsimp only at hf hlen hm
    walk_at "s"
    walk_at "v"
    refine ⟨by simp, fun p hp => ?_⟩
    have hpF : p ≠ F := fun q => by subst q; rw [upd_same] at hp; cases hp
    refine r p F _ ⟨figs, 0, mx, upd_same _ _ _, Ne.symm hpF, ?_, hf, by decide, hm, hlen⟩ ?_ ?_
    · rw [upd_ne _ _ (Ne.symm hpF), upd_same]
    · exact (Ext.new (Ext.updNew (Ext.refl _) hF) hp)
    · rw [upd_ne _ _ hpF] at hp; exact hp
end

section
variable {W : Wd} {fi : Fi} {dp un : Nat} {loc : Loc} {H : AH} {X : Xs} {R : AV → AH → Prop}

/-- an expression that makes a new tuple -/
noncomputable def MkT (W : Wd) (fi : Fi) (dp un : Nat) (loc : Loc) (X : Xs) (e : Expr) (vs : List AV) : Prop := plainArg e = true ∧ ∀ {H : AH} {R : AV → AH → Prop}, (∀ a, H a = none → R (.ref a) (upd H a (.tup vs))) → WpE W fi dp un loc H e R X
inductive AllT (W : Wd) (fi : Fi) (dp un : Nat) (loc : Loc) (X : Xs) : List Expr → List (List AV) → Prop
  | nil : AllT W fi dp un loc X [] []
  | cons {e : Expr} {es : List Expr} {vs : List AV} {vss : List (List AV)} : MkT W fi dp un loc X e vs → AllT W fi dp un loc X es vss → AllT W fi dp un loc X (e :: es) (vs :: vss)
theorem ext_none {H H' : AH} {a : Addr} (x : Ext H H') (h : H' a = none) : H a = none := by
  cases q : H a with
  | none => rfl
  | some o => rw [x a o q] at h; cases h
theorem as_rows {pos : Pos} {es : List Expr} {vss : List (List AV)} (h : AllT W fi dp un loc X es vss) : ∀ {H : AH} {R : List AV → AH → Prop},
    (∀ (as : List Addr) H', as.length = vss.length → (∀ (j : Nat) vs, vss[j]? = some vs → ∃ a, as[j]? = some a ∧ H a = none ∧ H' a = some (.tup vs)) → Ext H H' → R (as.map AV.ref) H') → WpAs W fi dp un loc H pos es R X := by
  induction h with
  | nil => exact fun {H R} r => as_nil (r [] H rfl (fun j vs e => by simp at e) (Ext.refl _))
  | @cons e es vs vss h1 _ ih =>
    intro H R r
    refine as_cons (h1.2 fun a ha => ih fun as H' hl hv hx => ?_) h1.1
    refine r (a :: as) H' (by simp [hl]) (fun j ws e => ?_) ((Ext.new (Ext.refl H) ha).trans hx)
    cases j with
    | zero => simp at e; subst e; exact ⟨a, rfl, ha, hx _ _ (upd_same _ _ _)⟩
    | succ j =>
      obtain ⟨b, h1, h2, h3⟩ := hv j ws (by simpa using e)
      exact ⟨b, by simpa using h1, ext_none (Ext.new (Ext.refl H) ha) h2, h3⟩
theorem e_rows {pos : Pos} {es : List Expr} {vss : List (List AV)} (h : AllT W fi dp un loc X es vss) (hl : vss.length ≤ 1000)
    (r : ∀ l (as : List Addr) H', H l = none → H' l = some (.lst (as.map AV.ref)) → as.length = vss.length → (∀ (j : Nat) vs, vss[j]? = some vs → ∃ a, as[j]? = some a ∧ H a = none ∧ H' a = some (.tup vs)) → Ext H H' → R (.ref l) H') : WpE W fi dp un loc H (.List es pos) R X := by
  refine e_list (as_rows h fun as H' hlen hv hx => ⟨by rw [List.length_map, hlen]; exact hl, fun l hl0 => ?_⟩)
  have hx' : Ext H' (upd H' l (.lst (as.map AV.ref))) := Ext.new (Ext.refl _) hl0
  refine r l as _ (ext_none hx hl0) (upd_same _ _ _) hlen (fun j vs e => ?_) (hx.trans hx')
  obtain ⟨a, h1, h0, h2⟩ := hv j vs e
  exact ⟨a, h1, h0, hx' _ _ h2⟩
noncomputable def cst : Expr → Option AV
  | .Constant (.str x) _ _ => some (.str x)
  | .Constant (.int i) _ _ => some (.int i)
  | _ => none
noncomputable def csts : List Expr → Option (List AV)
  | [] => some []
  | e :: r => match cst e, csts r with
    | some v, some vs => some (v :: vs)
    | _, _ => none
noncomputable def rowOf : Expr → Option (List AV)
  | .Tuple es _ _ => csts es
  | _ => none
noncomputable def rowsOf : List Expr → Option (List (List AV))
  | [] => some []
  | e :: r => match rowOf e, rowsOf r with
    | some v, some vs => some (v :: vs)
    | _, _ => none
theorem as_csts {pos : Pos} : ∀ {es : List Expr} {vs : List AV} {H : AH} {R : List AV → AH → Prop}, csts es = some vs → R vs H → WpAs W fi dp un loc H pos es R X
  | [], vs, H, R, e, r => by cases e; exact as_nil r
  | x :: es, vs, H, R, e, r => by
    unfold csts at e
    split at e
    · rename_i v vs' h1 h2
      cases e
      unfold cst at h1
      split at h1
      · cases h1; exact as_cons (e_str (as_csts h2 r)) rfl
      · cases h1; exact as_cons (e_int (as_csts h2 r)) rfl
      · cases h1
    · cases e
theorem mkT_of {e : Expr} {vs : List AV} (h : rowOf e = some vs) (hl : vs.length ≤ 1000) : MkT W fi dp un loc X e vs := by
  unfold rowOf at h
  split at h
  · exact ⟨rfl, fun r => e_tuple (as_csts h ⟨hl, r⟩)⟩
  · cases h
theorem allT_of : ∀ {es : List Expr} {vss : List (List AV)}, rowsOf es = some vss → vss.all (fun vs => decide (vs.length ≤ 1000)) = true → AllT W fi dp un loc X es vss
  | [], _, h, _ => by cases h; exact .nil
  | e :: es, vss, h, hl => by
    unfold rowsOf at h
    split at h
    · rename_i v vs h1 h2
      cases h
      rw [List.all_cons, Bool.and_eq_true] at hl
      exact .cons (mkT_of h1 (by simpa using hl.1)) (allT_of h2 hl.2)
    · cases h
end

section
variable {W : Wd} {fi : Fi} {dp un : Nat} {loc : Loc} {H : AH} {X : Xs} {R : AV → AH → Prop}
noncomputable def numT : List (String × String × Int × Int) := [("0", "double", 0, 1), ("1L", "integer", 1, 0), ("12.50", "double", 25, 2), (".5", "double", 1, 2), ("3.", "double", 3, 1), ("2147483648L", "double", 2147483648, 1), ("2147483647L", "integer", 2147483647, 0), ("1e3", "double", 1000, 1), ("2E-2", "double", 1, 50), ("1.5L", "double", 3, 2), ("15e-1", "double", 3, 2), ("1e3L", "integer", 1000, 0), ("0x1F", "double", 31, 1), ("0Xffl", "", 0, 0), ("0x10L", "integer", 16, 0), ("1e+04", "double", 10000, 1), ("007", "double", 7, 1), (".0", "double", 0, 1)]
noncomputable def numRow (q : String × String × Int × Int) : List AV := [.str (Str.ofString q.1), .str (Str.ofString q.2.1), .int q.2.2.1, .int q.2.2.2]
/-- the rows as they are drawn -/
noncomputable def numT' : List (String × String × Int × Int) := ("0Xff", "double", 255, 1) :: numT.filter fun q => q.2.1 != ""
noncomputable def numVal (kind : String) (n d : Int) : PyData := .tuple [.str (Str.ofString kind), .list [if kind = "integer" then .int n else .tuple [.int n, .int d]]]
theorem kp_ne {p a : Addr} {o : AO} (hp : H p = some o) (h : H a = none) : a ≠ p := fun q => by subst q; rw [hp] at h; cases h
theorem Pl.some {p F : Addr} (h : Pl H p F) : ∃ o, H p = some o := by
  obtain ⟨fs, i, mx, h1, _⟩ := h.ok
  exact ⟨_, h1⟩
theorem numT_kind : ∀ q ∈ numT, (Str.ofString q.2.1 == Str.ofString "") = (q.2.1 == "") ∧ (Str.ofString q.2.1 == Str.ofString "integer") = decide (q.2.1 = "integer") := by decide +kernel
theorem Ext.keep {p : Addr} {H H' H'' : AH} (x : Ext H H') (k : Keep p H' H'') : Keep p H H'' := fun a o n e => k a o n (x a o e)

/-- all but the pool's own list -/
noncomputable def hid (p : Addr) (H : AH) : AH := fun a => if a = p then none else H a
theorem hid_of {p a : Addr} {o : AO} (n : a ≠ p) (h : H a = some o) : hid p H a = some o := by unfold hid; rw [if_neg n]; exact h
theorem of_hid {p a : Addr} {o : AO} (h : hid p H a = some o) : a ≠ p ∧ H a = some o := by
  unfold hid at h
  by_cases q : a = p
  · rw [if_pos q] at h; cases h
  · rw [if_neg q] at h; exact ⟨q, h⟩
theorem Keep.ext {p : Addr} {H' : AH} (k : Keep p H H') : Ext (hid p H) (hid p H') := fun a o e => let ⟨n, h⟩ := of_hid e; hid_of n (k a o n h)
theorem c_lnum {p F : Addr} (hd : dp ≤ 700) (hP : Pl H p F) (r : ∀ t v q H', q ∈ numT' → hid p H' t = some (.tup [.str (Str.ofString q.1), .str "num", v]) → Den (hid p H') v (numVal q.2.1 q.2.2.1 q.2.2.2) → Pl H' p F → Keep p H H' → R (.ref t) H') :
    Call_OK W dp un H (.ref 322) [.ref p] R X := by
  obtain ⟨po, hpo⟩ := hP.some
  ((refine' call_def (dp' := _) (un' := _) (fnAt_of ?ho ?hcd ?a ?b ?c ?d ?ne) (binds_of ?hb) ?hl (Nat.le_refl _) (Nat.le_refl _) ?hr ?body); (case ho => intro w; k_is); (case hcd => intro w; k_is); (case a => rfl); (case b => rfl); (case c => rfl); (case d => rfl); (case ne => decide +kernel); (case hb => first | exact binds0 rfl | exact binds1 fun _ => rfl | exact binds2 fun _ _ => rfl | exact binds3 fun _ _ _ => rfl | exact binds5 fun _ _ _ _ _ => rfl); (case hl => rfl); (case hr => omega))
  walk_at "s"
  refine e_rows (vss := numT.map numRow) (allT_of rfl (by decide +kernel)) (by decide) fun l as H1 hl hl1 hlen hv hx1 => ?_
  have hlp := kp_ne hpo hl
  walk_at "s"
  walk_at "v"
  refine c_pick (by omega) (by decide) (hP.ext hx1) fun n hn H2 hP2 k2 => ?_
  have hn' : n < numT.length := by have : numT.length = 18 := rfl; omega
  obtain ⟨q, hq⟩ : ∃ q, numT[n]? = some q := ⟨_, List.getElem?_eq_getElem hn'⟩
  obtain ⟨a, ha1, ha0, ha2⟩ := hv n (numRow q) (by rw [List.getElem?_map, hq]; rfl)
  have hap := kp_ne hpo ha0
  have hqm : q ∈ numT := List.mem_of_getElem? hq
  obtain ⟨k1, k2'⟩ := numT_kind q hqm
  refine sub_lst (k2 l _ hlp hl1) (by omega) (by omega) (by rw [List.getElem?_map, Int.toNat_natCast, ha1]; rfl) ?_ rfl
  refine ⟨a, _, rfl, k2 a _ hap ha2, rfl, ?_⟩
  have kk : Keep p H H2 := Ext.keep hx1 k2
  obtain ⟨po2, hpo2⟩ := hP2.some
  walk_at "s"
  walk_at "v"
  rw [k1]
  refine ⟨_, rfl, fun he => ?_, fun he => ?_⟩
  · walk_at "s"
    walk_at "v"
    refine ⟨by simp, fun u hu => ⟨u, _, rfl, upd_same _ _ _, rfl, ?_⟩⟩
    have xu := Ext.new (o := AO.tup [.str (Str.ofString "0Xff"), .str (Str.ofString "double"), .int 255, .int 1]) (Ext.refl H2) hu
    walk_at "s"
    walk_at "s"
    walk_at "v"
    rw [show (Str.ofString "double" == Str.ofString "integer") = false from by decide +kernel]
    refine ⟨_, rfl, fun hi => ?_, fun hi => ?_⟩
    · walk_at "v"
      refine ⟨by simp, fun b hb => ?_⟩
      walk_at "v"
      refine ⟨by simp, fun c hc => ?_⟩
      walk_at "v"
      refine ⟨by simp, fun e he' => ?_⟩
      have x1 := Ext.new (o := AO.lst [AV.int 255]) (Ext.refl (upd H2 u (.tup [.str (Str.ofString "0Xff"), .str (Str.ofString "double"), .int 255, .int 1]))) hb
      have x2 := Ext.new (o := AO.tup [AV.str (Str.ofString "double"), AV.ref b]) (Ext.refl _) hc
      have x3 := Ext.new (o := AO.tup [AV.str (Str.ofString "0Xff"), AV.str (Str.ofString "num"), AV.ref c]) (Ext.refl _) he'
      have nb := kp_ne (xu _ _ hpo2) hb
      have nc := kp_ne (x1 _ _ (xu _ _ hpo2)) hc
      have ne := kp_ne (x2 _ _ (x1 _ _ (xu _ _ hpo2))) he'
      refine r e (.ref c) ("0Xff", "double", 255, 1) _ (.head _) ?_ ?_ ((hP2.ext xu).ext (x1.trans (x2.trans x3))) ((kk.trans (Keep.of_ext xu)).trans (Keep.of_ext (x1.trans (x2.trans x3))))
      · exact hid_of ne (upd_same _ _ _)
      · refine .tup (hid_of nc (x3 _ _ (upd_same _ _ _))) (.cons (.str _) (.cons ?_ .nil))
        refine .lst (hid_of nb (x3 _ _ (x2 _ _ (upd_same _ _ _)))) (.cons ?_ .nil)
        have hi' : "double" = "integer" := by cases hi
        rw [if_pos hi']
        exact .int _
    · walk_at "v"
      refine ⟨by simp, fun b0 hb0 => ?_⟩
      walk_at "v"
      refine ⟨by simp, fun b hb => ?_⟩
      walk_at "v"
      refine ⟨by simp, fun c hc => ?_⟩
      walk_at "v"
      refine ⟨by simp, fun e he' => ?_⟩
      have x0 := Ext.new (o := AO.tup [AV.int 255, AV.int 1]) (Ext.refl (upd H2 u (.tup [.str (Str.ofString "0Xff"), .str (Str.ofString "double"), .int 255, .int 1]))) hb0
      have x1 := Ext.new (o := AO.lst [AV.ref b0]) (Ext.refl _) hb
      have x2 := Ext.new (o := AO.tup [AV.str (Str.ofString "double"), AV.ref b]) (Ext.refl _) hc
      have x3 := Ext.new (o := AO.tup [AV.str (Str.ofString "0Xff"), AV.str (Str.ofString "num"), AV.ref c]) (Ext.refl _) he'
      have nb0 := kp_ne (xu _ _ hpo2) hb0
      have nb := kp_ne (x0 _ _ (xu _ _ hpo2)) hb
      have nc := kp_ne (x1 _ _ (x0 _ _ (xu _ _ hpo2))) hc
      have ne := kp_ne (x2 _ _ (x1 _ _ (x0 _ _ (xu _ _ hpo2)))) he'
      refine r e (.ref c) ("0Xff", "double", 255, 1) _ (.head _) ?_ ?_ ((hP2.ext xu).ext (x0.trans (x1.trans (x2.trans x3)))) ((kk.trans (Keep.of_ext xu)).trans (Keep.of_ext (x0.trans (x1.trans (x2.trans x3)))))
      · exact hid_of ne (upd_same _ _ _)
      · refine .tup (hid_of nc (x3 _ _ (upd_same _ _ _))) (.cons (.str _) (.cons ?_ .nil))
        refine .lst (hid_of nb (x3 _ _ (x2 _ _ (upd_same _ _ _)))) (.cons ?_ .nil)
        have hi' : ¬ "double" = "integer" := by decide
        rw [if_neg hi']
        exact .tup (hid_of nb0 (x3 _ _ (x2 _ _ (x1 _ _ (upd_same _ _ _))))) (.cons (.int _) (.cons (.int _) .nil))
  · walk_at "s"
    walk_at "s"
    walk_at "v"
    rw [k2']
    refine ⟨_, rfl, fun hi => ?_, fun hi => ?_⟩
    · walk_at "v"
      refine ⟨by simp, fun b hb => ?_⟩
      walk_at "v"
      refine ⟨by simp, fun c hc => ?_⟩
      walk_at "v"
      refine ⟨by simp, fun e he' => ?_⟩
      have x1 := Ext.new (o := AO.lst [AV.int q.2.2.1]) (Ext.refl H2) hb
      have x2 := Ext.new (o := AO.tup [AV.str (Str.ofString q.2.1), AV.ref b]) (Ext.refl _) hc
      have x3 := Ext.new (o := AO.tup [AV.str (Str.ofString q.1), AV.str (Str.ofString "num"), AV.ref c]) (Ext.refl _) he'
      have nb := kp_ne hpo2 hb
      have nc := kp_ne (x1 _ _ hpo2) hc
      have ne := kp_ne (x2 _ _ (x1 _ _ hpo2)) he'
      refine r e (.ref c) q _ (.tail _ (List.mem_filter.mpr ⟨hqm, by simpa using he⟩)) ?_ ?_ ((hP2.ext (Ext.refl _)).ext (x1.trans (x2.trans x3))) (kk.trans (Keep.of_ext (x1.trans (x2.trans x3))))
      · exact hid_of ne (upd_same _ _ _)
      · refine .tup (hid_of nc (x3 _ _ (upd_same _ _ _))) (.cons (.str _) (.cons ?_ .nil))
        refine .lst (hid_of nb (x3 _ _ (x2 _ _ (upd_same _ _ _)))) (.cons ?_ .nil)
        have hi' : q.2.1 = "integer" := by simpa using hi
        rw [if_pos hi']
        exact .int _
    · walk_at "v"
      refine ⟨by simp, fun b0 hb0 => ?_⟩
      walk_at "v"
      refine ⟨by simp, fun b hb => ?_⟩
      walk_at "v"
      refine ⟨by simp, fun c hc => ?_⟩
      walk_at "v"
      refine ⟨by simp, fun e he' => ?_⟩
      have x0 := Ext.new (o := AO.tup [AV.int q.2.2.1, AV.int q.2.2.2]) (Ext.refl H2) hb0
      have x1 := Ext.new (o := AO.lst [AV.ref b0]) (Ext.refl _) hb
      have x2 := Ext.new (o := AO.tup [AV.str (Str.ofString q.2.1), AV.ref b]) (Ext.refl _) hc
      have x3 := Ext.new (o := AO.tup [AV.str (Str.ofString q.1), AV.str (Str.ofString "num"), AV.ref c]) (Ext.refl _) he'
      have nb0 := kp_ne hpo2 hb0
      have nb := kp_ne (x0 _ _ hpo2) hb
      have nc := kp_ne (x1 _ _ (x0 _ _ hpo2)) hc
      have ne := kp_ne (x2 _ _ (x1 _ _ (x0 _ _ hpo2))) he'
      refine r e (.ref c) q _ (.tail _ (List.mem_filter.mpr ⟨hqm, by simpa using he⟩)) ?_ ?_ ((hP2.ext (Ext.refl _)).ext (x0.trans (x1.trans (x2.trans x3)))) (kk.trans (Keep.of_ext (x0.trans (x1.trans (x2.trans x3)))))
      · exact hid_of ne (upd_same _ _ _)
      · refine .tup (hid_of nc (x3 _ _ (upd_same _ _ _))) (.cons (.str _) (.cons ?_ .nil))
        refine .lst (hid_of nb (x3 _ _ (x2 _ _ (upd_same _ _ _)))) (.cons ?_ .nil)
        have hi' : ¬ q.2.1 = "integer" := by simpa using hi
        rw [if_neg hi']
        exact .tup (hid_of nb0 (x3 _ _ (x2 _ _ (x1 _ _ (upd_same _ _ _))))) (.cons (.int _) (.cons (.int _) .nil))
end

/-- what a piece between quotes says -/
noncomputable def Piece (q : Nat) (row c : List Nat) : Prop := ∀ rest O, QW q rest O → QW q (row ++ rest) (O.sh c row.length)
theorem piece_chr {q c : Nat} (h1 : c ≠ q) (h2 : c ≠ 92) : Piece q [c] [c] := fun rest O h => .chr c rest O h1 h2 h
theorem piece_simple {q c : Nat} (hc : c < 128) (h : simpE c ≠ []) : Piece q [92, c] (simpE c) := fun rest O ho =>
  .esc c rest (simpE c) 2 O hc (by unfold escA; rw [if_pos h]) (by unfold escP; rw [if_pos h]) ho
noncomputable def hx (k : Nat) : Nat := if k < 10 then 48 + k else 87 + k
noncomputable def hX (k : Nat) : Nat := if k < 10 then 48 + k else 55 + k
theorem codP_take {b m : Nat} (l r : List Nat) (h : l.length = m) : codP b m (l ++ r) = codP b m l := by
  unfold codP cod
  rw [List.take_append_of_le_length (by omega)]
theorem ascC_take {b m : Nat} (l r : List Nat) (h : l.length = m) : ascC b m (l ++ r) = ascC b m l := by
  unfold ascC
  rw [List.take_append_of_le_length (by omega)]
theorem tw_stop {p : Nat → Bool} {x : Nat} (hx : p x = false) : ∀ (l r : List Nat), (l ++ x :: r).takeWhile p = l.takeWhile p
  | [], r => by simp [hx]
  | y :: l, r => by
    rw [List.cons_append, List.takeWhile_cons, List.takeWhile_cons, tw_stop hx l r]
theorem dw_stop {p : Nat → Bool} {x : Nat} (hx : p x = false) : ∀ (l r : List Nat), ∃ l', (l ++ x :: r).dropWhile p = l' ++ x :: r ∧ ∃ l'', l'' ++ l' = l ∧ l' = l.dropWhile p
  | [], r => ⟨[], by simp [hx], [], rfl, rfl⟩
  | y :: l, r => by
    rw [List.cons_append, List.dropWhile_cons, List.dropWhile_cons]
    split
    · obtain ⟨l', h1, l'', h2, h3⟩ := dw_stop hx l r
      exact ⟨l', h1, y :: l'', by rw [List.cons_append, h2], h3⟩
    · exact ⟨y :: l, rfl, [], rfl, rfl⟩
theorem codP_stop {b m x : Nat} (hx : isB b x = false) (l r : List Nat) (h : l.length < m) : codP b m (l ++ x :: r) = codP b m l := by
  have e : cod b m (l ++ x :: r) = cod b m l := by
    unfold cod
    obtain ⟨k, hk⟩ : ∃ k, m - l.length = k + 1 := ⟨m - l.length - 1, by omega⟩
    rw [List.take_append, hk, List.take_succ_cons, List.take_of_length_le (Nat.le_of_lt h), tw_stop hx]
  unfold codP
  rw [e]
theorem ascC_stop {b m x : Nat} (hx : isB b x = false) (hx2 : x < 128) (l r : List Nat) (h : l.length < m) (ha : l.dropWhile (isB b) = []) : ascC b m (l ++ x :: r) = true := by
  unfold ascC
  obtain ⟨k, hk⟩ : ∃ k, m - l.length = k + 1 := ⟨m - l.length - 1, by omega⟩
  rw [List.take_append, hk, List.take_succ_cons, List.take_of_length_le (Nat.le_of_lt h)]
  obtain ⟨l', h1, _, _, h3⟩ := dw_stop hx l (r.take k)
  rw [h1, h3, ha]
  simpa [asc] using hx2
theorem oct_tab : ∀ f < 256, f ≠ 0 → codP 8 3 [48 + f / 64, 48 + f / 8 % 8, 48 + f % 8] = some ([f], 3) ∧ ascC 8 3 [48 + f / 64, 48 + f / 8 % 8, 48 + f % 8] = true ∧ simpE (48 + f / 64) = [] := by decide +kernel
theorem piece_oct {q f : Nat} (h1 : f < 256) (h0 : f ≠ 0) : Piece q [92, 48 + f / 64, 48 + f / 8 % 8, 48 + f % 8] [f] := by
  intro rest O ho
  obtain ⟨t1, t2, t3⟩ := oct_tab f h1 h0
  have hd : 48 ≤ 48 + f / 64 ∧ 48 + f / 64 ≤ 55 := by omega
  have c1 := codP_take (b := 8) (m := 3) [48 + f / 64, 48 + f / 8 % 8, 48 + f % 8] rest rfl
  have c2 := ascC_take (b := 8) (m := 3) [48 + f / 64, 48 + f / 8 % 8, 48 + f % 8] rest rfl
  refine .esc (48 + f / 64) ([48 + f / 8 % 8, 48 + f % 8] ++ rest) [f] 4 O (by omega) ?_ ?_ ho
  · unfold escA
    rw [t3, if_neg (fun z => z rfl), if_pos hd]
    exact c2.trans t2
  · unfold escP
    rw [t3, if_neg (fun z => z rfl), if_pos hd, show codP 8 3 ((48 + f / 64) :: ([48 + f / 8 % 8, 48 + f % 8] ++ rest)) = _ from c1, t1]
    rfl
noncomputable def hdig (u : Bool) (k : Nat) : Nat := if u then hX k else hx k
theorem hex_tab2 : ∀ u : Bool, ∀ f < 256, f ≠ 0 → codP 16 2 [hx (f / 16), hdig u (f % 16)] = some ([f], 2) ∧ ascC 16 2 [hx (f / 16), hdig u (f % 16)] = true := by decide +kernel
theorem hex_tab4 : ∀ u : Bool, ∀ f < 256, f ≠ 0 → codP 16 4 [48, 48, hx (f / 16), hdig u (f % 16)] = some ([f], 4) ∧ ascC 16 4 [48, 48, hx (f / 16), hdig u (f % 16)] = true := by decide +kernel
theorem hex_tab8 : ∀ u : Bool, ∀ f < 256, f ≠ 0 → codP 16 8 [49, 70, 54, hx (f / 16), hdig u (f % 16)] = some ([128512 + f], 5) ∧ [49, 70, 54, hx (f / 16), hdig u (f % 16)].dropWhile (isB 16) = [] := by decide +kernel
theorem piece_x {q f : Nat} (u : Bool) (h1 : f < 256) (h0 : f ≠ 0) : Piece q [92, 120, hx (f / 16), hdig u (f % 16)] [f] := by
  intro rest O ho
  obtain ⟨t1, t2⟩ := hex_tab2 u f h1 h0
  have c1 := codP_take (b := 16) (m := 2) [hx (f / 16), hdig u (f % 16)] rest rfl
  have c2 := ascC_take (b := 16) (m := 2) [hx (f / 16), hdig u (f % 16)] rest rfl
  refine .esc 120 ([hx (f / 16), hdig u (f % 16)] ++ rest) [f] 4 O (by decide) ?_ ?_ ho
  · exact c2.trans t2
  · show shO 2 (codP 16 2 ([hx (f / 16), hdig u (f % 16)] ++ rest)) = _
    rw [c1, t1]; rfl
theorem piece_u {q f : Nat} (u : Bool) (h1 : f < 256) (h0 : f ≠ 0) : Piece q [92, 117, 48, 48, hx (f / 16), hdig u (f % 16)] [f] := by
  intro rest O ho
  obtain ⟨t1, t2⟩ := hex_tab4 u f h1 h0
  have c1 := codP_take (b := 16) (m := 4) [48, 48, hx (f / 16), hdig u (f % 16)] rest rfl
  have c2 := ascC_take (b := 16) (m := 4) [48, 48, hx (f / 16), hdig u (f % 16)] rest rfl
  refine .esc 117 ([48, 48, hx (f / 16), hdig u (f % 16)] ++ rest) [f] 6 O (by decide) ?_ ?_ ho
  · exact c2.trans t2
  · show shO 2 (codP 16 4 ([48, 48, hx (f / 16), hdig u (f % 16)] ++ rest)) = _
    rw [c1, t1]; rfl
theorem piece_U {q f : Nat} (u : Bool) (h1 : f < 256) (h0 : f ≠ 0) : Piece q [92, 85, 123, 49, 70, 54, hx (f / 16), hdig u (f % 16), 125] [128512 + f] := by
  intro rest O ho
  obtain ⟨t1, t2⟩ := hex_tab8 u f h1 h0
  have c1 := codP_stop (b := 16) (m := 8) (x := 125) (by decide) [49, 70, 54, hx (f / 16), hdig u (f % 16)] rest (by show 5 < 8; decide)
  have c2 := ascC_stop (b := 16) (m := 8) (x := 125) (by decide) (by decide) [49, 70, 54, hx (f / 16), hdig u (f % 16)] rest (by show 5 < 8; decide) t2
  refine .esc 85 ([123, 49, 70, 54, hx (f / 16), hdig u (f % 16), 125] ++ rest) [128512 + f] 9 O (by decide) ?_ ?_ ho
  · exact c2
  · show (match codP 16 8 ([49, 70, 54, hx (f / 16), hdig u (f % 16)] ++ 125 :: rest) with | none => none | some (v, n) => if onHd (fun d => d == 125) (([123, 49, 70, 54, hx (f / 16), hdig u (f % 16), 125] ++ rest).drop (n + 1)) = true then some (v, n + 4) else none) = _
    rw [c1, t1]; rfl
section
variable {W : Wd} {fi : Fi} {dp un : Nat} {loc : Loc} {H : AH} {X : Xs} {R : AV → AH → Prop}
noncomputable def charT : List Nat := [97, 32, 37, 35, 40, 233, 9, 39, 34, 96]
theorem piece_chars : [Str.ofString "a", Str.ofString " ", Str.ofString "%", Str.ofString "#", Str.ofString "(", (⟨#[Int.toNat 233]⟩ : Str), Str.ofString "\t", Str.ofString "'", Str.ofString "\"", Str.ofString "`"] = charT.map (fun c => mk [c]) := by decide +kernel
noncomputable def escT : List Nat := [110, 116, 114, 97, 98, 102, 118, 92, 34, 39, 96, 10]
theorem esc_items : ∀ n < 12, Txt.item (Str.ofString "ntrabfv\\\"'`\n") ((n : Nat) : Int) = mk [escT.getD n 0] ∧ Txt.item (Str.ofString "\n\t\r\x07\x08\x0c\x0b\\\"'`\n") ((n : Nat) : Int) = mk (simpE (escT.getD n 0)) ∧ simpE (escT.getD n 0) ≠ [] ∧ escT.getD n 0 < 128 := by decide +kernel
theorem dig_str : ∀ d < 8, Str.ofString (toString ((d : Nat) : Int)) = mk [48 + d] := by decide +kernel
theorem hexl_items : ∀ n < 16, Txt.item (Str.ofString "0123456789abcdef") ((n : Nat) : Int) = mk [hx n] ∧ Txt.item (Str.ofString "0123456789abcdefABCDEF") ((n : Nat) : Int) = mk [hx n] := by decide +kernel
theorem hexu_items : ∀ n < 16, 10 ≤ n → Txt.item (Str.ofString "ABCDEF") (((n : Nat) : Int) - 10) = mk [hX n] := by decide +kernel
theorem len_esc : (Str.ofString "ntrabfv\\\"'`\n").length = 12 ∧ (Str.ofString "\n\t\r\x07\x08\x0c\x0b\\\"'`\n").length = 12 ∧ (Str.ofString "0123456789abcdef").length = 16 ∧ (Str.ofString "0123456789abcdefABCDEF").length = 22 ∧ (Str.ofString "ABCDEF").length = 6 := by decide +kernel
theorem lit_xs : Str.ofString "x" = mk [120] := by decide +kernel
theorem lit_bs' : Str.ofString "\\" = mk [92] := by decide +kernel
theorem lit_bsx : Str.ofString "\\x" = mk [92, 120] ∧ Str.ofString "\\u00" = mk [92, 117, 48, 48] ∧ Str.ofString "\\U{1F6" = mk [92, 85, 123, 49, 70, 54] ∧ Str.ofString "}" = mk [125] := by decide +kernel

theorem c_piece {p F : Addr} {q : Nat} (hd : dp ≤ 700) (hq : q = 39 ∨ q = 34 ∨ q = 96) (hP : Pl H p F) (r : ∀ t row c H', hid p H' t = some (.tup [.str (mk row), .str (mk c)]) → Piece q row c → row.length ≤ 10 → (c.length = 1 ∧ ∀ x ∈ c, x < 1114112) → Pl H' p F → Keep p H H' → R (.ref t) H') :
    Call_OK W dp un H (.ref 329) [.ref p, .str (mk [q])] R X := by
  obtain ⟨l1, l2, l3, l4, l5⟩ := len_esc
  ((refine' call_def (dp' := _) (un' := _) (fnAt_of ?ho ?hcd ?a ?b ?c ?d ?ne) (binds_of ?hb) ?hl (Nat.le_refl _) (Nat.le_refl _) ?hr ?body); (case ho => intro w; k_is); (case hcd => intro w; k_is); (case a => rfl); (case b => rfl); (case c => rfl); (case d => rfl); (case ne => decide +kernel); (case hb => first | exact binds0 rfl | exact binds1 fun _ => rfl | exact binds2 fun _ _ => rfl | exact binds3 fun _ _ _ => rfl | exact binds5 fun _ _ _ _ _ => rfl); (case hl => rfl); (case hr => omega))
  walk_at "s"
  walk_at "v"
  refine c_pick (by omega) (by decide) hP fun way hway H1 hP1 k1 => ?_
  have hway' : way < 9 := by omega
  walk_at "s"
  walk_at "v"
  refine ⟨_, rfl, fun hw => ?_, fun hw => ?_⟩
  · walk_at "s"
    walk_at "v"
    refine k_chr (by decide) (by decide) ?_
    walk_at "v"
    refine ⟨by simp, fun a ha => ?_⟩
    walk_at "v"
    obtain ⟨po, hpo⟩ := hP1.some
    have hap := kp_ne hpo ha
    have x1 := Ext.new (o := AO.lst (charT.map fun c => AV.str (mk [c]))) (Ext.refl H1) ha
    refine c_pick (by omega) (by decide) ((hP1.ext (Ext.new (Ext.refl H1) ha))) fun n hn H2 hP2 k2 => ?_
    have hn' : n < charT.length := by have : charT.length = 10 := rfl; omega
    obtain ⟨c, hc⟩ : ∃ c, charT[n]? = some c := ⟨_, List.getElem?_eq_getElem hn'⟩
    have hc92 : c ≠ 92 := by
      have : ∀ c ∈ charT, c ≠ 92 := by decide
      exact this c (List.mem_of_getElem? hc)
    have hcsm : c < 1114112 := (by decide : ∀ c ∈ charT, c < 1114112) c (List.mem_of_getElem? hc)
    have kk : Keep p H H2 := k1.trans (Ext.keep (Ext.new (Ext.refl H1) ha) k2)
    refine sub_lst (v := .str (mk [c])) (k2 a _ hap (upd_same _ _ _)) (by omega) (by omega) ?_ ?_ rfl
    · have e := congrArg (List.map AV.str) piece_chars
      rw [Int.toNat_natCast]
      refine (congrArg (fun z : List AV => z[n]?) e).trans ?_
      rw [List.map_map, List.getElem?_map, hc]; rfl
    walk_at "s"
    walk_at "v"
    rw [mk_eq]
    obtain ⟨po2, hpo2⟩ := hP2.some
    refine ⟨_, rfl, fun hcq => ?_, fun hcq => ?_⟩
    · walk_at "v"
      refine ⟨by simp, fun b hb => ?_⟩
      have hcq' : c = q := by simpa using hcq
      have xb := Ext.new (o := AO.tup [AV.str (Str.ofString "x"), AV.str (Str.ofString "x")]) (Ext.refl H2) hb
      refine r b [120] [120] _ (hid_of (kp_ne hpo2 hb) ?_) (piece_chr ?_ (by decide)) (by decide) ⟨rfl, by decide⟩ (hP2.ext xb) (kk.trans (Keep.of_ext xb))
      · rw [lit_xs]; exact upd_same _ _ _
      · rcases hq with rfl | rfl | rfl <;> decide
    · walk_at "v"
      refine ⟨by simp, fun b hb => ?_⟩
      have hcq' : c ≠ q := by simpa using hcq
      have xb := Ext.new (o := AO.tup [AV.str (mk [c]), AV.str (mk [c])]) (Ext.refl H2) hb
      exact r b [c] [c] _ (hid_of (kp_ne hpo2 hb) (upd_same _ _ _)) (piece_chr hcq' hc92) (by show 1 ≤ 10; decide) ⟨rfl, fun x hx => by rw [List.mem_singleton.mp hx]; exact hcsm⟩ (hP2.ext xb) (kk.trans (Keep.of_ext xb))
  walk_at "s"
  walk_at "s"
  walk_at "v"
  refine ⟨_, rfl, fun hw2 => ?_, fun hw2 => ?_⟩
  · walk_at "s"
    walk_at "v"
    refine c_pick (by omega) (by decide) hP1 fun n hn H2 hP2 k2 => ?_
    obtain ⟨po2, hpo2⟩ := hP2.some
    obtain ⟨t1, t2, t3, t4⟩ := esc_items n (by omega)
    walk_at "s"
    walk_at "v"
    refine sub_str (by omega) (by rw [l1]; omega) (by rw [l1]; decide) ?_ rfl
    rw [t1, lit_bs']
    refine b_cat (by rw [mk_len, mk_len]; show 2 ≤ sizeLine; decide) ?_
    rw [mk_app]
    walk_at "v"
    refine sub_str (by omega) (by rw [l2]; omega) (by rw [l2]; decide) ?_ rfl
    rw [t2]
    walk_at "v"
    refine ⟨by simp, fun b hb => ?_⟩
    have xb := Ext.new (o := AO.tup [AV.str (mk ([92] ++ [escT.getD n 0])), AV.str (mk (simpE (escT.getD n 0)))]) (Ext.refl H2) hb
    have hl1 : (simpE (escT.getD n 0)).length = 1 := by
      have h1 := simpE_len (escT.getD n 0)
      have h2 : (simpE (escT.getD n 0)).length ≠ 0 := fun z => t3 (List.length_eq_zero_iff.mp z)
      omega
    exact r b [92, escT.getD n 0] _ _ (hid_of (kp_ne hpo2 hb) (upd_same _ _ _)) (piece_simple t4 t3) (by show 2 ≤ 10; decide) ⟨hl1, fun x hx => (by decide +kernel : ∀ c < 128, ∀ x ∈ simpE c, x < 1114112) _ t4 x hx⟩ (hP2.ext xb) ((k1.trans k2).trans (Keep.of_ext xb))
  walk_at "s"
  walk_at "s"
  walk_at "v"
  refine ⟨_, rfl, fun hw3 => ?_, fun hw3 => ?_⟩
  · walk_at "s"
    walk_at "v"
    refine c_pick (by omega) (by decide) hP1 fun n hn H2 hP2 k2 => ?_
    obtain ⟨po2, hpo2⟩ := hP2.some
    walk_at "v"
    have ef : (1 + (n : Int)) = ((1 + n : Nat) : Int) := by omega
    rw [ef]
    obtain ⟨f, hf⟩ : ∃ f, f = 1 + n := ⟨_, rfl⟩
    rw [← hf]
    have hf1 : f < 256 := by omega
    have hf0 : f ≠ 0 := by omega
    walk_at "s"
    walk_at "v"
    have d1 : Int.fdiv (f : Int) 64 = ((f / 64 : Nat) : Int) := by rw [Int.fdiv_eq_ediv_of_nonneg _ (by decide)]; rfl
    have d2 : Int.fdiv (f : Int) 8 = ((f / 8 : Nat) : Int) := by rw [Int.fdiv_eq_ediv_of_nonneg _ (by decide)]; rfl
    have d3 : Int.fmod ((f / 8 : Nat) : Int) 8 = ((f / 8 % 8 : Nat) : Int) := by rw [Int.fmod_eq_emod_of_nonneg _ (by decide)]; rfl
    have d4 : Int.fmod (f : Int) 8 = ((f % 8 : Nat) : Int) := by rw [Int.fmod_eq_emod_of_nonneg _ (by decide)]; rfl
    rw [d1]
    refine k_str (by omega) (by omega) ?_
    rw [dig_str _ (by omega), lit_bs']
    refine b_cat (by rw [mk_len, mk_len]; show 2 ≤ sizeLine; decide) ?_
    rw [mk_app]
    walk_at "v"
    rw [d2, d3]
    refine k_str (by omega) (by omega) ?_
    rw [dig_str _ (by omega)]
    refine b_cat (by rw [mk_len, mk_len]; show 3 ≤ sizeLine; decide) ?_
    rw [mk_app]
    walk_at "v"
    rw [d4]
    refine k_str (by omega) (by omega) ?_
    rw [dig_str _ (by omega)]
    refine b_cat (by rw [mk_len, mk_len]; show 4 ≤ sizeLine; decide) ?_
    rw [mk_app]
    walk_at "v"
    refine k_chr (by omega) (by omega) ?_
    rw [Int.toNat_natCast]
    walk_at "v"
    refine ⟨by simp, fun b hb => ?_⟩
    have xb := Ext.new (o := AO.tup [AV.str (mk ([92] ++ [48 + f / 64] ++ [48 + f / 8 % 8] ++ [48 + f % 8])), AV.str ⟨#[f]⟩]) (Ext.refl H2) hb
    exact r b [92, 48 + f / 64, 48 + f / 8 % 8, 48 + f % 8] [f] _ (hid_of (kp_ne hpo2 hb) (upd_same _ _ _)) (piece_oct hf1 hf0) (by show 4 ≤ 10; decide) ⟨rfl, fun x hx => by rw [List.mem_singleton.mp hx]; omega⟩ (hP2.ext xb) ((k1.trans k2).trans (Keep.of_ext xb))
  walk_at "s"
  walk_at "s"
  walk_at "v"
  refine c_pick (by omega) (by decide) hP1 fun n hn H2 hP2 k2 => ?_
  obtain ⟨po2, hpo2⟩ := hP2.some
  walk_at "v"
  have ef : (1 + (n : Int)) = ((1 + n : Nat) : Int) := by omega
  rw [ef]
  obtain ⟨f, hf⟩ : ∃ f, f = 1 + n := ⟨_, rfl⟩
  rw [← hf]
  have hf1 : f < 256 := by omega
  have hf0 : f ≠ 0 := by omega
  have d1 : Int.fdiv (f : Int) 16 = ((f / 16 : Nat) : Int) := by rw [Int.fdiv_eq_ediv_of_nonneg _ (by decide)]; rfl
  have d2 : Int.fmod (f : Int) 16 = ((f % 16 : Nat) : Int) := by rw [Int.fmod_eq_emod_of_nonneg _ (by decide)]; rfl
  have hm16 : f % 16 < 16 := Nat.mod_lt _ (by decide)
  have hd16 : f / 16 < 16 := by omega
  obtain ⟨u1, u2⟩ := hexl_items (f % 16) hm16
  obtain ⟨u3, _⟩ := hexl_items (f / 16) hd16
  have hw' : (3 : Int) ≤ way := by simpa using hw
  have hw2' : (5 : Int) ≤ way := by simpa using hw2
  have hw3' : way ≠ 5 := by
    intro q0; subst q0; exact absurd hw3 (by decide)
  walk_at "s"
  walk_at "v"
  rw [d2]
  refine ⟨_, rfl, ?_⟩
  (apply jTst; focus (intro _))
  · walk_at "v"
    exact ⟨_, rfl, rfl, rfl⟩
  refine ⟨fun hA => ?_, fun hB => ?_⟩
  · walk_at "v"
    rw [d2]
    refine sub_str (by omega) (by rw [l4]; omega) (by rw [l4]; decide) ?_ rfl
    rw [u2, show hx (f % 16) = hdig false (f % 16) from rfl]
    walk_at "s"
    walk_at "v"
    rw [d1]
    refine sub_str (by omega) (by rw [l3]; omega) (by rw [l3]; decide) ?_ rfl
    rw [u3]
    walk_at "v"
    refine b_cat (by rw [mk_len, mk_len]; show 2 ≤ sizeLine; decide) ?_
    rw [mk_app]
    walk_at "s"
    walk_at "v"
    rw [lit_bsx.1]
    refine b_cat (by rw [mk_len, mk_len]; show 4 ≤ sizeLine; decide) ?_
    rw [mk_app]
    walk_at "v"
    refine k_chr (by omega) (by omega) ?_
    rw [Int.toNat_natCast]
    walk_at "v"
    refine ⟨by simp, fun a1 ha1 => ?_⟩
    walk_at "v"
    rw [lit_bsx.2.1]
    refine b_cat (by rw [mk_len, mk_len]; show 6 ≤ sizeLine; decide) ?_
    rw [mk_app]
    walk_at "v"
    refine k_chr (by omega) (by omega) ?_
    rw [Int.toNat_natCast]
    walk_at "v"
    refine ⟨by simp, fun a2 ha2 => ?_⟩
    walk_at "v"
    rw [lit_bsx.2.2.1]
    refine b_cat (by rw [mk_len, mk_len]; show 8 ≤ sizeLine; decide) ?_
    rw [mk_app]
    walk_at "v"
    rw [lit_bsx.2.2.2]
    refine b_cat (by rw [mk_len, mk_len]; show 9 ≤ sizeLine; decide) ?_
    rw [mk_app]
    walk_at "v"
    refine k_chr (by omega) (by omega) ?_
    rw [show Int.toNat (128512 + (f : Int)) = 128512 + f from by omega]
    walk_at "v"
    refine ⟨by simp, fun a3 ha3 => ?_⟩
    walk_at "v"
    refine ⟨by simp, fun a4 ha4 => ?_⟩
    walk_at "v"
    have x1 := Ext.new (o := AO.tup [AV.str (mk ([92, 120] ++ ([hx (f / 16)] ++ [hdig false (f % 16)]))), AV.str ⟨#[f]⟩]) (Ext.refl H2) ha1
    have x2 := Ext.new (o := AO.tup [AV.str (mk ([92, 117, 48, 48] ++ ([hx (f / 16)] ++ [hdig false (f % 16)]))), AV.str ⟨#[f]⟩]) (Ext.refl _) ha2
    have x3 := Ext.new (o := AO.tup [AV.str (mk ([92, 85, 123, 49, 70, 54] ++ ([hx (f / 16)] ++ [hdig false (f % 16)]) ++ [125])), AV.str ⟨#[128512 + f]⟩]) (Ext.refl _) ha3
    have x4 := Ext.new (o := AO.lst [AV.ref a1, AV.ref a2, AV.ref a3]) (Ext.refl _) ha4
    have n1 := kp_ne hpo2 ha1
    have n2 := kp_ne (x1 _ _ hpo2) ha2
    have n3 := kp_ne (x2 _ _ (x1 _ _ hpo2)) ha3
    have xx := x1.trans (x2.trans (x3.trans x4))
    have kk := (k1.trans k2).trans (Keep.of_ext (p := p) xx)
    have g1 := hid_of n1 (x4 _ _ (x3 _ _ (x2 _ _ (upd_same _ _ _))))
    have g2 := hid_of n2 (x4 _ _ (x3 _ _ (upd_same _ _ _)))
    have g3 := hid_of n3 (x4 _ _ (upd_same _ _ _))
    have hcase : way = 6 ∨ way = 7 ∨ way = 8 := by omega
    rcases hcase with rfl | rfl | rfl
    · refine sub_lst (v := .ref a1) (upd_same _ _ _) (by decide) (by decide) rfl ?_ rfl
      exact r a1 [92, 120, hx (f / 16), hdig false (f % 16)] [f] _ g1 (piece_x false hf1 hf0) (by show 4 ≤ 10; decide) ⟨rfl, fun x hx => by rw [List.mem_singleton.mp hx]; omega⟩ (hP2.ext xx) kk
    · refine sub_lst (v := .ref a2) (upd_same _ _ _) (by decide) (by decide) rfl ?_ rfl
      exact r a2 [92, 117, 48, 48, hx (f / 16), hdig false (f % 16)] [f] _ g2 (piece_u false hf1 hf0) (by show 6 ≤ 10; decide) ⟨rfl, fun x hx => by rw [List.mem_singleton.mp hx]; omega⟩ (hP2.ext xx) kk
    · refine sub_lst (v := .ref a3) (upd_same _ _ _) (by decide) (by decide) rfl ?_ rfl
      exact r a3 [92, 85, 123, 49, 70, 54, hx (f / 16), hdig false (f % 16), 125] [128512 + f] _ g3 (piece_U false hf1 hf0) (by show 9 ≤ 10; decide) ⟨rfl, fun x hx => by rw [List.mem_singleton.mp hx]; omega⟩ (hP2.ext xx) kk
  · have hB' : ¬ (((f % 16 : Nat) : Int) < 10) ∧ ¬ ((way : Int) < 8) := by
      rw [Bool.or_eq_false_iff] at hB
      exact ⟨by simpa using hB.1, by simpa using hB.2⟩
    walk_at "v"
    rw [d2]
    walk_at "v"
    refine sub_str (by omega) (by rw [l5]; omega) (by rw [l5]; decide) ?_ rfl
    rw [hexu_items (f % 16) hm16 (by omega), show hX (f % 16) = hdig true (f % 16) from rfl]
    walk_at "s"
    walk_at "v"
    rw [d1]
    refine sub_str (by omega) (by rw [l3]; omega) (by rw [l3]; decide) ?_ rfl
    rw [u3]
    walk_at "v"
    refine b_cat (by rw [mk_len, mk_len]; show 2 ≤ sizeLine; decide) ?_
    rw [mk_app]
    walk_at "s"
    walk_at "v"
    rw [lit_bsx.1]
    refine b_cat (by rw [mk_len, mk_len]; show 4 ≤ sizeLine; decide) ?_
    rw [mk_app]
    walk_at "v"
    refine k_chr (by omega) (by omega) ?_
    rw [Int.toNat_natCast]
    walk_at "v"
    refine ⟨by simp, fun a1 ha1 => ?_⟩
    walk_at "v"
    rw [lit_bsx.2.1]
    refine b_cat (by rw [mk_len, mk_len]; show 6 ≤ sizeLine; decide) ?_
    rw [mk_app]
    walk_at "v"
    refine k_chr (by omega) (by omega) ?_
    rw [Int.toNat_natCast]
    walk_at "v"
    refine ⟨by simp, fun a2 ha2 => ?_⟩
    walk_at "v"
    rw [lit_bsx.2.2.1]
    refine b_cat (by rw [mk_len, mk_len]; show 8 ≤ sizeLine; decide) ?_
    rw [mk_app]
    walk_at "v"
    rw [lit_bsx.2.2.2]
    refine b_cat (by rw [mk_len, mk_len]; show 9 ≤ sizeLine; decide) ?_
    rw [mk_app]
    walk_at "v"
    refine k_chr (by omega) (by omega) ?_
    rw [show Int.toNat (128512 + (f : Int)) = 128512 + f from by omega]
    walk_at "v"
    refine ⟨by simp, fun a3 ha3 => ?_⟩
    walk_at "v"
    refine ⟨by simp, fun a4 ha4 => ?_⟩
    walk_at "v"
    have x1 := Ext.new (o := AO.tup [AV.str (mk ([92, 120] ++ ([hx (f / 16)] ++ [hdig true (f % 16)]))), AV.str ⟨#[f]⟩]) (Ext.refl H2) ha1
    have x2 := Ext.new (o := AO.tup [AV.str (mk ([92, 117, 48, 48] ++ ([hx (f / 16)] ++ [hdig true (f % 16)]))), AV.str ⟨#[f]⟩]) (Ext.refl _) ha2
    have x3 := Ext.new (o := AO.tup [AV.str (mk ([92, 85, 123, 49, 70, 54] ++ ([hx (f / 16)] ++ [hdig true (f % 16)]) ++ [125])), AV.str ⟨#[128512 + f]⟩]) (Ext.refl _) ha3
    have x4 := Ext.new (o := AO.lst [AV.ref a1, AV.ref a2, AV.ref a3]) (Ext.refl _) ha4
    have n1 := kp_ne hpo2 ha1
    have n2 := kp_ne (x1 _ _ hpo2) ha2
    have n3 := kp_ne (x2 _ _ (x1 _ _ hpo2)) ha3
    have xx := x1.trans (x2.trans (x3.trans x4))
    have kk := (k1.trans k2).trans (Keep.of_ext (p := p) xx)
    have g1 := hid_of n1 (x4 _ _ (x3 _ _ (x2 _ _ (upd_same _ _ _))))
    have g2 := hid_of n2 (x4 _ _ (x3 _ _ (upd_same _ _ _)))
    have g3 := hid_of n3 (x4 _ _ (upd_same _ _ _))
    have hcase : way = 6 ∨ way = 7 ∨ way = 8 := by omega
    rcases hcase with rfl | rfl | rfl
    · refine sub_lst (v := .ref a1) (upd_same _ _ _) (by decide) (by decide) rfl ?_ rfl
      exact r a1 [92, 120, hx (f / 16), hdig true (f % 16)] [f] _ g1 (piece_x true hf1 hf0) (by show 4 ≤ 10; decide) ⟨rfl, fun x hx => by rw [List.mem_singleton.mp hx]; omega⟩ (hP2.ext xx) kk
    · refine sub_lst (v := .ref a2) (upd_same _ _ _) (by decide) (by decide) rfl ?_ rfl
      exact r a2 [92, 117, 48, 48, hx (f / 16), hdig true (f % 16)] [f] _ g2 (piece_u true hf1 hf0) (by show 6 ≤ 10; decide) ⟨rfl, fun x hx => by rw [List.mem_singleton.mp hx]; omega⟩ (hP2.ext xx) kk
    · refine sub_lst (v := .ref a3) (upd_same _ _ _) (by decide) (by decide) rfl ?_ rfl
      exact r a3 [92, 85, 123, 49, 70, 54, hx (f / 16), hdig true (f % 16), 125] [128512 + f] _ g3 (piece_U true hf1 hf0) (by show 9 ≤ 10; decide) ⟨rfl, fun x hx => by rw [List.mem_singleton.mp hx]; omega⟩ (hP2.ext xx) kk
end

section
variable {W : Wd} {fi : Fi} {dp un : Nat} {loc : Loc} {H : AH} {X : Xs} {R : AV → AH → Prop}
theorem piece_nil (q : Nat) : Piece q [] [] := fun rest O h => by rw [List.nil_append, List.length_nil, QO.sh_nil]; exact h
theorem piece_app {q : Nat} {a b c d : List Nat} (h1 : Piece q a c) (h2 : Piece q b d) : Piece q (a ++ b) (c ++ d) := fun rest O h => by
  rw [List.append_assoc, List.length_append, ← QO.sh_sh]
  exact h1 _ _ (h2 _ _ h)
theorem c_lquoted {p F : Addr} {q : Nat} (hd : dp ≤ 600) (hq : q = 39 ∨ q = 34 ∨ q = 96) (hP : Pl H p F)
    (r : ∀ t body v H', hid p H' t = some (.tup [.str (mk (q :: (body ++ [q]))), .str (mk v)]) → Piece q body v → body.length ≤ 40 → (v.length ≤ 4 ∧ ∀ x ∈ v, x < 1114112) → Pl H' p F → Keep p H H' → R (.ref t) H') :
    Call_OK W dp un H (.ref 336) [.ref p, .str (mk [q])] R X := by
  ((refine' call_def (dp' := _) (un' := _) (fnAt_of ?ho ?hcd ?a ?b ?c ?d ?ne) (binds_of ?hb) ?hl (Nat.le_refl _) (Nat.le_refl _) ?hr ?body); (case ho => intro w; k_is); (case hcd => intro w; k_is); (case a => rfl); (case b => rfl); (case c => rfl); (case d => rfl); (case ne => decide +kernel); (case hb => first | exact binds0 rfl | exact binds1 fun _ => rfl | exact binds2 fun _ _ => rfl | exact binds3 fun _ _ _ => rfl | exact binds5 fun _ _ _ _ _ => rfl); (case hl => rfl); (case hr => omega))
  walk_at "s"
  walk_at "v"
  walk_at "s"
  walk_at "v"
  rw [lit_emp]
  refine ss_forJ (σ := List Nat × List Nat × AH) (τ := List Nat × List Nat × AH) (fun st => Piece q st.1 st.2.1 ∧ st.1.length ≤ 40 ∧ (st.2.1.length ≤ 4 ∧ ∀ x ∈ st.2.1, x < 1114112) ∧ Pl st.2.2 p F ∧ Keep p H st.2.2) (fun st => [("quote", .str (mk [q])), ("row", .str (mk (q :: st.1))), ("value", .str (mk st.2.1))]) (fun st => st.2.2) rfl (fun _ _ => rfl) ?_ ?_
  · walk_at "v"
    refine c_pick (by omega) (by decide) hP fun n hn H1 hP1 k1 => ?_
    walk_at "v"
    refine k_range fun g hg => ?_
    refine ⟨_, _, fun k (st : List Nat × List Nat × AH) => Piece q st.1 st.2.1 ∧ st.1.length ≤ 10 * k ∧ (st.2.1.length ≤ k ∧ ∀ x ∈ st.2.1, x < 1114112) ∧ Pl st.2.2 p F ∧ Keep p H st.2.2, fun st => [("pool", .ref p), ("quote", .str (mk [q])), ("row", .str (mk (q :: st.1))), ("value", .str (mk st.2.1))], fun st => st.2.2, ([], [], H1), .inr (.inl ⟨g, n, rfl, upd_same _ _ _, by omega, by omega, rfl, rfl⟩), ⟨piece_nil q, by simp, ⟨by simp, by simp⟩, hP1, k1⟩, ⟨rfl, rfl, rfl, rfl, trivial⟩, Ext.new (Ext.refl _) hg, ?_, ?_⟩
    · rintro k ⟨body, v, H2⟩ av ⟨i1, i2, ⟨i3, i3'⟩, i4, i5⟩ hav
      have hk : k < n := by
        have := (List.getElem?_eq_some_iff.mp hav).1
        simpa using this
      dsimp only at i1 i2 i3 i3' i4 i5
      walk_at "s"
      walk_at "v"
      refine c_piece (by omega) hq i4 fun t row c H3 ht hp hl1 ⟨hl2, hl2'⟩ hP3 k3 => ?_
      obtain ⟨_, ht'⟩ := of_hid ht
      refine ⟨t, _, rfl, ht', rfl, ?_⟩
      walk_at "s"
      walk_at "v"
      refine i_cat (by rw [mk_len, mk_len, List.length_cons]; exact Nat.le_trans (show _ ≤ 100 by dsimp only; omega) (by decide)) ?_
      rw [mk_app]
      walk_at "s"
      walk_at "v"
      refine i_cat (by rw [mk_len, mk_len]; exact Nat.le_trans (show _ ≤ 100 by dsimp only; omega) (by decide)) ?_
      rw [mk_app]
      walk_at "s"
      refine ⟨(body ++ row, v ++ c, H3), ⟨piece_app i1 hp, ?_, ⟨?_, ?_⟩, hP3, i5.trans k3⟩, ⟨rfl, rfl, rfl, rfl, trivial⟩, Ext.refl _⟩
      · show (body ++ row).length ≤ _
        rw [List.length_append]; omega
      · show (v ++ c).length ≤ _
        rw [List.length_append]; omega
      · intro x hx
        rcases List.mem_append.mp hx with hx | hx
        · exact i3' x hx
        · exact hl2' x hx
    · rintro ⟨body, v, H2⟩ ⟨i1, i2, ⟨i3, i3'⟩, i4, i5⟩
      rw [List.length_map, List.length_range] at i2 i3
      exact ⟨(body, v, H2), ⟨i1, by dsimp only at i2 ⊢; omega, ⟨by dsimp only at i3 ⊢; omega, i3'⟩, i4, i5⟩, ⟨rfl, rfl, rfl, trivial⟩, Ext.refl _⟩
  · rintro ⟨body, v, H2⟩ ⟨i1, i2, i3, i4, i5⟩
    dsimp only at i1 i2 i3 i4 i5
    obtain ⟨po, hpo⟩ := i4.some
    walk_at "s"
    walk_at "v"
    refine b_cat (by rw [mk_len, mk_len, List.length_cons]; exact Nat.le_trans (show _ ≤ 100 by simp; omega) (by decide)) ?_
    rw [mk_app]
    walk_at "v"
    refine ⟨by simp, fun t ht => ?_⟩
    have xt := Ext.new (o := AO.tup [AV.str (mk (q :: body ++ [q])), AV.str (mk v)]) (Ext.refl H2) ht
    exact r t body v _ (hid_of (kp_ne hpo ht) (upd_same _ _ _)) i1 i2 i3 (i4.ext xt) (i5.trans (Keep.of_ext xt))
end

section
variable {W : Wd} {fi : Fi} {dp un : Nat} {loc : Loc} {H : AH} {X : Xs}
theorem s_unpackS {elts : List Expr} {n1 n2 : Str} {k : Nat} {tp pos : Pos} {value : Expr} {R : AF → Loc → AH → Prop}
    (h : WpE W fi dp un loc H value (fun v H1 => ∃ c1 c2, v = .str (mk [c1, c2]) ∧ c1 < 128 ∧ c2 < 128 ∧ R .next (setLs loc [n1, n2] [.str (mk [c1]), .str (mk [c2])]) H1) X)
    (hn : namesOf elts = some [n1, n2]) (hl : [n1, n2].all (locIn fi.scope) = true)
    (hs : ∀ env, swapsWithSole [.Tuple elts k tp] value pos.line env = pure false) (hw : ∀ L, swappedStores [.Tuple elts k tp] value (fi.env L) = pure none) :
    WpS W fi dp un loc H (.Assign [.Tuple elts k tp] value pos) R X := by
  constructor
  intro A A₀ base h₀ outer L m led pv s Q E am lr hp hQ hE
  refine Assign_Tuple (h.run A A₀ base h₀ outer L m led pv s _ E am lr hp (fun v av H1 led1 h1 tk1 r1 v1 hp1 => ?_) (hE m)) (hs _) (hw _)
  obtain ⟨c1, c2, rfl, ha1, ha2, r⟩ := r1
  obtain ⟨t, rfl⟩ := v1
  obtain ⟨hel, hel2, nps, hnps, hel4⟩ := assignEach_len (env := fi.env L) hn
  rw [assign_Tuple]
  refine wpAny_bind (wpAny_standAt ?_)
  unfold unpack
  rw [hel, hel2]
  refine wpAny_bind (wpAny_holding ?_)
  have ha : (mk [c1, c2]).cps.all (· < 128) = true := by simp [mk, ha1, ha2]
  unfold unpackItems
  refine wpAny_bind ?_
  unfold notIterableAtAll
  refine wpAny_bind (wpAny_specialOf (typeIs_str _ _ _) PySem.F.slot_str_iter.lookup ?_)
  refine wpAny_pure ?_
  simp only [Bool.false_eq_true, if_false]
  refine wpAny_bind (wpAny_holding (wpAny_pyIter_ascii ha ?_))
  have Wk := Walks.strAscii (prog := PG) (w := W.w) am.handled h1.objs.size (mk [c1, c2]) t
  have hsz : (mk [c1, c2]).cps.size = 2 := rfl
  have hpI := hp1.pushI { cls := .type "str_ascii_iterator", data := .fields #[.str (mk [c1, c2]) t, .int 0 0] } rfl
  have st0 : (h1.push { cls := .type "str_ascii_iterator", data := .fields #[.str (mk [c1, c2]) t, .int 0 0] }).IsStrIter h1.objs.size "str_ascii_iterator" (mk [c1, c2]) t 0 := ⟨_, Heap.get?_push_size _ rfl, rfl, rfl⟩
  refine wpAny_bind (wpAny_holding ?_)
  show wpAny _ _ (pyNext (.ref h1.objs.size) >>= _) _ _ _
  refine wpAny_bind (Wk.item 0 _ _ _ (by rw [hsz]; decide) st0 fun v2 h2 tk2 p2 st2 k2 => ?_)
  refine wpAny_bind (wpAny_holding ?_)
  show wpAny _ _ (pyNext (.ref h1.objs.size) >>= _) _ _ _
  refine wpAny_bind (Wk.item 1 _ _ _ (by rw [hsz]; decide) st2 fun v3 h3 tk3 p3 st3 k3 => ?_)
  refine wpAny_bind (wpAny_holding (wpAny_pure (wpAny_pure (wpAny_pure ?_))))
  rw [if_neg (by simp)]
  refine wpAny_bind (wpAny_holding (Wk.done _ _ _ (hsz ▸ st3) fun h4 tk4 k4 => ?_))
  simp only [Option.isSome_none, Bool.false_eq_true, if_false]
  refine wpAny_pure ?_
  obtain ⟨d2, u2, e2, rfl⟩ := p2
  obtain ⟨d3, u3, e3, rfl⟩ := p3
  obtain rfl : c1 = d2 := Option.some.inj e2
  obtain rfl : c2 = d3 := Option.some.inj e3
  have kk : ∀ b o, b ≠ h1.objs.size → (h1.push { cls := .type "str_ascii_iterator", data := .fields #[.str (mk [c1, c2]) t, .int 0 0] }).get? b = some o → h4.get? b = some o := fun b o hb e =>
    k4 b o (by simpa using hb) (k3 b o (by simpa using hb) (k2 b o (by simpa using hb) e))
  have hp4 := hpI.dropI hp1.pvNe kk
  rw [hel4]
  rw [hnps] at hl r
  exact store_each (nps := nps) (avs := [.str (mk [c1]), .str (mk [c2])]) (vs := [.str ⟨#[c1]⟩ u2, .str ⟨#[c2]⟩ u3]) am hl ⟨⟨u2, rfl⟩, ⟨u3, rfl⟩, trivial⟩ lr hp4 fun m' h'' tk lr' hp' => hQ _ _ _ _ _ _ _ _ r rfl lr' hp'
end

noncomputable def cps (x : String) : List Nat := (Str.ofString x).cps.toList
theorem mk_cpsS (x : String) : mk (cps x) = Str.ofString x := mk_cps _
noncomputable def idT : List String := ["a", "x.1", "..", "...", "T", "if_", "r", "R2", ".a_", "in.", "NA_"]
noncomputable def keyT : List String := ["if", "TRUE", "NULL", "in", "NA_real_", "function", "Inf"]
noncomputable def opTexts : List String := ["<<-", "->>", ":::", "<-", "->", "|>", "<=", ">=", "==", "!=", "&&", "||", "::", "[[", "**", "+", "-", "*", "/", "^", "<", ">", "=", "!", "&", "|", "~", "?", ":", "$", "@", "(", ")", "{", "}", "[", "]", ",", ";", "\\", "%%", "%in%", "%`'\"%"]
noncomputable def rawT : List (List Nat) := [[], [97, 92, 110], [41, 39], [120, 93, 45], [10]]
noncomputable def rawCl (q n o : Nat) : List Nat := closeOf o :: (List.replicate n 45 ++ [q])
noncomputable def rawRow (r q n o : Nat) (v : List Nat) : List Nat := r :: q :: (List.replicate n 45 ++ o :: (v ++ rawCl q n o))
/-- the close stands first behind the value -/
noncomputable def rawFirst (q n o : Nat) (v : List Nat) : Bool := (List.range v.length).all fun i => !(rawCl q n o).isPrefixOf ((v ++ rawCl q n o).drop i)
theorem raw_tab : ∀ q ∈ [39, 34], ∀ n < 3, ∀ o ∈ [40, 91, 123], ∀ v ∈ rawT, rawFirst q n o v = true ∨ Txt.contains (mk v) (mk (rawCl q n o)) = true := by decide +kernel
theorem raw_a : ∀ q ∈ [39, 34], ∀ n < 3, ∀ o ∈ [40, 91, 123], rawFirst q n o [97] = true := by decide +kernel
/-- a token as the law draws it: its signs, kind, value -/
inductive LTok : List Nat → String → PyData → Prop
  | id (x : String) : x ∈ idT → LTok (cps x) "id" (.str (Str.ofString x))
  | key (x : String) : x ∈ keyT → LTok (cps x) "key" (.str (Str.ofString x))
  | bq (body v : List Nat) : Piece 96 body v → v ≠ [] → body.length ≤ 40 → (v.length ≤ 4 ∧ ∀ x ∈ v, x < 1114112) → LTok (96 :: (body ++ [96])) "id" (.str (mk v))
  | bqif : LTok (cps "`if`") "id" (.str (Str.ofString "if"))
  | num (q : String × String × Int × Int) : q ∈ numT' → LTok (cps q.1) "num" (numVal q.2.1 q.2.2.1 q.2.2.2)
  | str (q : Nat) (body v : List Nat) : q = 39 ∨ q = 34 → Piece q body v → body.length ≤ 40 → (v.length ≤ 4 ∧ ∀ x ∈ v, x < 1114112) → LTok (q :: (body ++ [q])) "str" (.str (mk v))
  | raw (r q n o : Nat) (v : List Nat) : r ∈ [114, 82] → q ∈ [39, 34] → n < 3 → o ∈ [40, 91, 123] → (v.length ≤ 3 ∧ ∀ x ∈ v, x < 1114112) → rawFirst q n o v = true → LTok (rawRow r q n o v) "str" (.str (mk v))
  | op (x : String) : x ∈ opTexts → LTok (cps x) "op" (.str (Str.ofString (if x = "**" then "^" else x)))
theorem split_ops : Txt.split (Str.ofString "<<- ->> ::: <- -> |> <= >= == != && || :: [[ ** + - * / ^ < > = ! & | ~ ? : $ @ ( ) { } [ ] , ; \\ %% %in% %`'\"%") (Str.ofString " ") = opTexts.map Str.ofString := by decide +kernel
theorem mul_dash : ∀ n < 3, Txt.mul (Str.ofString "-") ((n : Nat) : Int) = mk (List.replicate n 45) := by decide +kernel
theorem raw_texts : [Str.ofString "", Str.ofString "a\\n", Str.ofString ")'", Str.ofString "x]-", Str.ofString "\n"] = rawT.map mk := by decide +kernel
theorem op_star : ∀ x ∈ opTexts, (Str.ofString x == Str.ofString "**") = decide (x = "**") := by decide +kernel
theorem ltok_len {row : List Nat} {k : String} {v : PyData} (h : LTok row k v) : row.length ≤ 60 := by
  cases h with
  | id x hx => exact (by decide +kernel : ∀ x ∈ idT, (cps x).length ≤ 60) x hx
  | key x hx => exact (by decide +kernel : ∀ x ∈ keyT, (cps x).length ≤ 60) x hx
  | bq body v h1 h2 h3 h4 => simp; omega
  | bqif => decide +kernel
  | num q hq => exact (by decide +kernel : ∀ q ∈ numT', (cps q.1).length ≤ 60) q hq
  | str q body v h1 h2 h3 h4 => simp; omega
  | raw r q n o v h1 h2 h3 h4 h5 h6 => simp [rawRow, rawCl]; omega
  | op x hx => exact (by decide +kernel : ∀ x ∈ opTexts, (cps x).length ≤ 60) x hx
theorem ofS_ok (ts : List String) (h : ts.all (fun x => (cps x).all (· < 1114112)) = true) {x : String} (hx : x ∈ ts) : PyData.strOk (Str.ofString x) = true := by
  have := List.all_eq_true.mp h x hx
  rw [← mk_cpsS]
  unfold PyData.strOk mk
  simpa using this
theorem mk_ok {v : List Nat} (h : ∀ x ∈ v, x < 1114112) : PyData.strOk (mk v) = true := by
  unfold PyData.strOk mk
  simpa using h
theorem num_lay : ∀ q ∈ numT', PyData.canLay0 (numVal q.2.1 q.2.2.1 q.2.2.2) = true ∧ PyData.depth (numVal q.2.1 q.2.2.1 q.2.2.2) ≤ 8 := by
  intro q hq
  have h1 : PyData.strOk (Str.ofString q.2.1) = true := (by decide +kernel : ∀ q ∈ numT', PyData.strOk (Str.ofString q.2.1) = true) q hq
  unfold numVal
  split
  · exact ⟨by simp [PyData.canLay0, PyData.canLayAll0, h1], by simp [PyData.depth, PyData.depthAll]⟩
  · exact ⟨by simp [PyData.canLay0, PyData.canLayAll0, h1], by simp [PyData.depth, PyData.depthAll]⟩
theorem ltok_lay {row : List Nat} {k : String} {v : PyData} (h : LTok row k v) : PyData.canLay0 v = true ∧ PyData.depth v ≤ 8 ∧ PyData.strOk (Str.ofString k) = true := by
  have ks : ∀ k ∈ ["id", "key", "num", "str", "op"], PyData.strOk (Str.ofString k) = true := by decide +kernel
  have st : ∀ {x : Str}, PyData.strOk x = true → PyData.canLay0 (.str x) = true ∧ PyData.depth (.str x) ≤ 8 := fun h => ⟨by simp [PyData.canLay0, h], by simp [PyData.depth]⟩
  cases h with
  | id x hx => exact ⟨(st (ofS_ok idT (by decide +kernel) hx)).1, (st (ofS_ok idT (by decide +kernel) hx)).2, ks _ (by simp)⟩
  | key x hx => exact ⟨(st (ofS_ok keyT (by decide +kernel) hx)).1, (st (ofS_ok keyT (by decide +kernel) hx)).2, ks _ (by simp)⟩
  | bq body v h1 h2 h3 h4 => exact ⟨(st (mk_ok h4.2)).1, (st (mk_ok h4.2)).2, ks _ (by simp)⟩
  | bqif => exact ⟨(st (by decide +kernel)).1, (st (x := Str.ofString "if") (by decide +kernel)).2, ks _ (by simp)⟩
  | num q hq => exact ⟨(num_lay q hq).1, (num_lay q hq).2, ks _ (by simp)⟩
  | str q body v h1 h2 h3 h4 => exact ⟨(st (mk_ok h4.2)).1, (st (mk_ok h4.2)).2, ks _ (by simp)⟩
  | raw r q n o v h1 h2 h3 h4 h5 h6 => exact ⟨(st (mk_ok h5.2)).1, (st (mk_ok h5.2)).2, ks _ (by simp)⟩
  | op x hx =>
    have := (by decide +kernel : ∀ x ∈ opTexts, PyData.strOk (Str.ofString (if x = "**" then "^" else x)) = true) x hx
    exact ⟨(st this).1, (st this).2, ks _ (by simp)⟩
section
variable {W : Wd} {fi : Fi} {dp un : Nat} {loc : Loc} {H : AH} {X : Xs} {R : AV → AH → Prop}
theorem n_pick : ∀ w : World, nsIn (hd.heap_39 w.params) mainGlobals "_law_pick" = some (some (.ref 315)) := fun w => by k_is
theorem kp_pick : ∀ w : World, keepIn (hd.heap_39 w.params) (.ref 315) = true := fun w => by k_is
/-- one of some written texts, drawn -/
theorem e_pickS {es : List Expr} {xs : List Str} {n : Int} {p F : Addr} {p1 p2 p3 p4 p5 p6 : Pos} {k4 : Nat} (hd : dp ≤ 700) (hc : csts es = some (xs.map AV.str)) (hn : (xs.length : Int) = n) (h0 : 0 < n) (hx : xs.length ≤ 900) (hl : loc "pool" = some (.ref p)) (hl2 : locIn fi.scope "pool" = true)
    (hg : globIn fi.scope "_law_pick" = true) (hP : Pl H p F) (r : ∀ x ∈ xs, ∀ H', Pl H' p F → Keep p H H' → R (.str x) H') :
    WpE W fi dp un loc H (.Subscript (.List es p1) (.Call (.Name "_law_pick" p2) [.Name "pool" p3, .Constant (.int n) k4 p4] [] p5) p6) R X := by
  obtain ⟨po, hpo⟩ := hP.some
  refine e_sub (e_list (as_csts hc ⟨by rw [List.length_map]; omega, fun a ha => ?_⟩))
  have xa := Ext.new (o := AO.lst (xs.map AV.str)) (Ext.refl H) ha
  refine e_call n_pick kp_pick hg rfl (as_cons (e_name hl (as_cons (e_int (as_nil ?_)) rfl) hl2) rfl)
  refine c_pick (by omega) h0 (hP.ext xa) fun i hi H2 hP2 k2 => ?_
  obtain ⟨x, hx⟩ : ∃ x, xs[i]? = some x := ⟨_, List.getElem?_eq_getElem (by omega)⟩
  refine sub_lst (v := .str x) (k2 a _ (kp_ne hpo ha) (upd_same _ _ _)) (by omega) (by omega) (by rw [Int.toNat_natCast, List.getElem?_map, hx]; rfl) (r x (List.mem_of_getElem? hx) H2 hP2 (Ext.keep xa k2)) rfl
theorem id_csts : idT.map Str.ofString = [Str.ofString "a", Str.ofString "x.1", Str.ofString "..", Str.ofString "...", Str.ofString "T", Str.ofString "if_", Str.ofString "r", Str.ofString "R2", Str.ofString ".a_", Str.ofString "in.", Str.ofString "NA_"] := rfl

theorem mulOk_dash : ∀ n < 3, MulOk (Str.ofString "-") ((n : Nat) : Int) := by unfold MulOk; decide +kernel
theorem begun_tab : ∀ x ∈ [Str.ofString "()", Str.ofString "[]", Str.ofString "{}"], ∃ o ∈ [40, 91, 123], x = mk [o, closeOf o] := by
  intro x hx
  simp only [List.mem_cons, List.not_mem_nil, or_false] at hx
  rcases hx with rfl | rfl | rfl
  · exact ⟨40, by decide, by decide +kernel⟩
  · exact ⟨91, by decide, by decide +kernel⟩
  · exact ⟨123, by decide, by decide +kernel⟩
theorem quote_tab : ∀ i < 2, ∃ q ∈ [39, 34], Txt.item (Str.ofString "'\"") ((i : Nat) : Int) = mk [q] := by
  intro i hi
  have : i = 0 ∨ i = 1 := by omega
  rcases this with rfl | rfl
  · exact ⟨39, by decide, by decide +kernel⟩
  · exact ⟨34, by decide, by decide +kernel⟩
theorem rR_tab : ∀ i < 2, ∃ q ∈ [114, 82], Txt.item (Str.ofString "rR") ((i : Nat) : Int) = mk [q] := by
  intro i hi
  have : i = 0 ∨ i = 1 := by omega
  rcases this with rfl | rfl
  · exact ⟨114, by decide, by decide +kernel⟩
  · exact ⟨82, by decide, by decide +kernel⟩
theorem len2 : (Str.ofString "'\"").length = 2 ∧ (Str.ofString "rR").length = 2 := by decide +kernel
theorem close_lt : ∀ o ∈ [40, 91, 123], o < 128 ∧ closeOf o < 128 := by decide
theorem rawT_len : ∀ v ∈ rawT, v.length ≤ 3 ∧ ∀ x ∈ v, x < 1114112 := by decide
theorem c_ltoken {p F : Addr} (hd : dp ≤ 500) (hP : Pl H p F)
    (r : ∀ t row kind v d H', hid p H' t = some (.tup [.str (mk row), .str (Str.ofString kind), v]) → Den (hid p H') v d → LTok row kind d → Pl H' p F → Keep p H H' → R (.ref t) H') :
    Call_OK W dp un H (.ref 343) [.ref p] R X := by
  have fin3 : ∀ {H2 : AH} {row : List Nat} {kind : String} {x : Str} {a : Addr}, H2 a = none → Pl H2 p F → Keep p H H2 → LTok row kind (.str x) → R (.ref a) (upd H2 a (.tup [.str (mk row), .str (Str.ofString kind), .str x])) := fun {H2 row kind x a} ha hP2 kk hT => by
    obtain ⟨po, hpo⟩ := hP2.some
    have xa := Ext.new (o := AO.tup [.str (mk row), .str (Str.ofString kind), .str x]) (Ext.refl H2) ha
    exact r a row kind (.str x) _ _ (hid_of (kp_ne hpo ha) (upd_same _ _ _)) (.str _) hT (hP2.ext xa) (kk.trans (Keep.of_ext xa))
  ((refine' call_def (dp' := _) (un' := _) (fnAt_of ?ho ?hcd ?a ?b ?c ?d ?ne) (binds_of ?hb) ?hl (Nat.le_refl _) (Nat.le_refl _) ?hr ?body); (case ho => intro w; k_is); (case hcd => intro w; k_is); (case a => rfl); (case b => rfl); (case c => rfl); (case d => rfl); (case ne => decide +kernel); (case hb => first | exact binds0 rfl | exact binds1 fun _ => rfl | exact binds2 fun _ _ => rfl | exact binds3 fun _ _ _ => rfl | exact binds5 fun _ _ _ _ _ => rfl); (case hl => rfl); (case hr => omega))
  walk_at "s"
  walk_at "v"
  refine c_pick (by omega) (by decide) hP fun kd hkd H1 hP1 k1 => ?_
  walk_at "s"
  walk_at "v"
  refine ⟨_, rfl, fun hw => ?_, fun hw => ?_⟩
  · refine ss_cons (s_assign ?_ rfl (fun _ => rfl))
    refine e_pickS (xs := idT.map Str.ofString) (by omega) rfl (by decide) (by decide) (by decide) rfl rfl rfl hP1 fun x hx H2 hP2 k2 => ?_
    obtain ⟨y, hy, rfl⟩ := List.mem_map.mp hx
    walk_at "s"
    walk_at "v"
    refine ⟨by simp, fun a ha => ?_⟩
    rw [← mk_cpsS y]
    have := LTok.id y hy
    rw [← mk_cpsS y] at this
    exact fin3 ha hP2 (k1.trans k2) this
  walk_at "s"
  walk_at "s"
  walk_at "v"
  refine ⟨_, rfl, fun hw => ?_, fun hw => ?_⟩
  · refine ss_cons (s_assign ?_ rfl (fun _ => rfl))
    refine e_pickS (xs := keyT.map Str.ofString) (by omega) rfl (by decide) (by decide) (by decide) rfl rfl rfl hP1 fun x hx H2 hP2 k2 => ?_
    obtain ⟨y, hy, rfl⟩ := List.mem_map.mp hx
    walk_at "s"
    walk_at "v"
    refine ⟨by simp, fun a ha => ?_⟩
    rw [← mk_cpsS y]
    have := LTok.key y hy
    rw [← mk_cpsS y] at this
    exact fin3 ha hP2 (k1.trans k2) this
  walk_at "s"
  walk_at "s"
  walk_at "v"
  refine ⟨_, rfl, fun hw3 => ?_, fun hw3 => ?_⟩
  · walk_at "s"
    walk_at "v"
    rw [lit_bq]
    refine c_lquoted (by omega) (.inr (.inr rfl)) hP1 fun t body v H2 ht hpc hl1 hl2 hP2 k2 => ?_
    refine ⟨t, _, rfl, (of_hid ht).2, rfl, ?_⟩
    walk_at "s"
    walk_at "v"
    refine ⟨_, rfl, fun hv => ?_, fun hv => ?_⟩
    · have hv' : v ≠ [] := by
        intro q; subst q; rw [lit_emp] at hv; simp at hv
      walk_at "v"
      exact ⟨by simp, fun a ha => fin3 ha hP2 (k1.trans k2) (.bq body v hpc hv' hl1 hl2)⟩
    · walk_at "v"
      refine ⟨by simp, fun a ha => ?_⟩
      rw [← mk_cpsS "`if`"]
      exact fin3 ha hP2 (k1.trans k2) .bqif
  walk_at "s"
  walk_at "s"
  walk_at "v"
  refine ⟨_, rfl, fun hw4 => ?_, fun hw4 => ?_⟩
  · walk_at "s"
    walk_at "v"
    refine c_lnum (by omega) hP1 fun t v q H2 hq ht hden hP2 k2 => ?_
    rw [← mk_cpsS q.1] at ht
    exact r t _ "num" v _ H2 ht hden (.num q hq) hP2 (k1.trans k2)
  walk_at "s"
  walk_at "s"
  walk_at "v"
  have hw3' : kd ≠ 3 := by intro q; subst q; exact absurd hw3 (by decide)
  have hw4' : kd ≠ 4 := by intro q; subst q; exact absurd hw4 (by decide)
  have hw' : kd ≠ 2 := by intro q; subst q; exact absurd hw (by decide)
  refine ⟨_, rfl, fun hw5 => ?_, fun hw5 => ?_⟩
  · have hw5' : (kd : Int) < 7 := by simpa using hw5
    have hw2' : ¬ (kd : Int) < 2 := by
      intro q
      have : kd < 2 := by omega
      simp_all
    have hk : kd = 5 ∨ kd = 6 := by omega
    walk_at "s"
    walk_at "v"
    refine ⟨by simp, fun a ha => ?_⟩
    walk_at "v"
    have xa := Ext.new (o := AO.lst [AV.str (Str.ofString "'"), AV.str (Str.ofString "\"")]) (Ext.refl H1) ha
    have hq : ∃ q, (q = 39 ∨ q = 34) ∧ ([AV.str (Str.ofString "'"), AV.str (Str.ofString "\"")] : List AV)[((kd : Int) - 5).toNat]? = some (.str (mk [q])) := by
      rcases hk with rfl | rfl
      · exact ⟨39, .inl rfl, by rw [lit_sq]; rfl⟩
      · exact ⟨34, .inr rfl, by rw [lit_dq]; rfl⟩
    obtain ⟨q, hq1, hq2⟩ := hq
    refine sub_lst (upd_same _ _ _) (by omega) (by omega) hq2 ?_ rfl
    walk_at "v"
    refine c_lquoted (by omega) (hq1.elim .inl fun z => .inr (.inl z)) (hP1.ext xa) fun t body v H2 ht hpc hl1 hl2 hP2 k2 => ?_
    refine ⟨t, _, rfl, (of_hid ht).2, rfl, ?_⟩
    walk_at "s"
    walk_at "v"
    exact ⟨by simp, fun b hb => fin3 hb hP2 (k1.trans (Ext.keep xa k2)) (.str q body v hq1 hpc hl1 hl2)⟩
  walk_at "s"
  walk_at "s"
  walk_at "v"
  refine ⟨_, rfl, fun hw7 => ?_, fun hw7 => ?_⟩
  · refine ss_cons (s_assign ?_ rfl (fun _ => rfl))
    refine e_pickS (xs := [Str.ofString "", Str.ofString "a\\n", Str.ofString ")'", Str.ofString "x]-", Str.ofString "\n"]) (by omega) rfl (by decide) (by decide) (by decide) rfl rfl rfl hP1 fun x hx H2 hP2 k2 => ?_
    obtain ⟨v, hv, rfl⟩ : ∃ v ∈ rawT, x = mk v := by
      rw [raw_texts] at hx
      obtain ⟨v, hv, rfl⟩ := List.mem_map.mp hx
      exact ⟨v, hv, rfl⟩
    have hvl := rawT_len v hv
    have hvl1 := hvl.1
    refine ss_cons (s_unpackS ?_ rfl rfl (fun _ => rfl) (fun _ => rfl))
    refine e_pickS (xs := [Str.ofString "()", Str.ofString "[]", Str.ofString "{}"]) (by omega) rfl (by decide) (by decide) (by decide) rfl rfl rfl hP2 fun x hx H3 hP3 k3 => ?_
    obtain ⟨o, ho, rfl⟩ := begun_tab x hx
    refine ⟨o, closeOf o, rfl, (close_lt o ho).1, (close_lt o ho).2, ?_⟩
    walk_at "s"
    walk_at "v"
    refine c_pick (by omega) (by decide) hP3 fun n hn H4 hP4 k4 => ?_
    have hn' : n < 3 := by omega
    refine b_rept (mulOk_dash n hn') ?_
    rw [mul_dash n hn']
    walk_at "s"
    walk_at "v"
    refine c_pick (by omega) (by decide) hP4 fun j hj H5 hP5 k5 => ?_
    obtain ⟨q, hq, eq⟩ := quote_tab j (by omega)
    refine sub_str (by omega) (by rw [len2.1]; omega) (by rw [len2.1]; decide) ?_ rfl
    rw [eq]
    walk_at "s"
    walk_at "v"
    refine b_cat (by simp only [mk_len, List.length_append, List.length_cons, List.length_nil, List.length_replicate]; rw [sizeLine_eq]; omega) ?_
    rw [mk_app]
    walk_at "v"
    refine b_cat (by simp only [mk_len, List.length_append, List.length_cons, List.length_nil, List.length_replicate]; rw [sizeLine_eq]; omega) ?_
    rw [mk_app]
    walk_at "v"
    have ecl : [closeOf o] ++ List.replicate n 45 ++ [q] = rawCl q n o := by simp [rawCl]
    rw [ecl]
    refine ⟨_, rfl, fun hc => ?_, fun hc => ?_⟩
    · walk_at "s"
      walk_at "v"
      walk_at "s"
      walk_at "s"
      walk_at "v"
      refine c_pick (by omega) (by decide) hP5 fun i hi H6 hP6 k6 => ?_
      obtain ⟨rr, hrr, er⟩ := rR_tab i (by omega)
      refine sub_str (by omega) (by rw [len2.2]; omega) (by rw [len2.2]; decide) ?_ rfl
      rw [er]
      walk_at "v"
      refine b_cat (by rw [mk_len, mk_len]; show 2 ≤ sizeLine; decide) ?_
      rw [mk_app]
      walk_at "v"
      refine b_cat (by simp only [mk_len, List.length_append, List.length_cons, List.length_nil, List.length_replicate]; rw [sizeLine_eq]; omega) ?_
      rw [mk_app]
      walk_at "v"
      refine b_cat (by simp only [mk_len, List.length_append, List.length_cons, List.length_nil, List.length_replicate]; rw [sizeLine_eq]; omega) ?_
      rw [mk_app]
      walk_at "v"
      rw [show Str.ofString "a" = mk [97] from by decide +kernel]
      refine b_cat (by simp only [mk_len, List.length_append, List.length_cons, List.length_nil, List.length_replicate]; rw [sizeLine_eq]; omega) ?_
      rw [mk_app]
      walk_at "v"
      refine b_cat (by simp only [mk_len, List.length_append, List.length_cons, List.length_nil, List.length_replicate]; rw [sizeLine_eq]; omega) ?_
      rw [mk_app]
      walk_at "v"
      refine b_cat (by simp only [mk_len, List.length_append, List.length_cons, List.length_nil, List.length_replicate]; rw [sizeLine_eq]; omega) ?_
      rw [mk_app]
      walk_at "v"
      refine b_cat (by simp only [mk_len, List.length_append, List.length_cons, List.length_nil, List.length_replicate]; rw [sizeLine_eq]; omega) ?_
      rw [mk_app]
      walk_at "v"
      refine ⟨by simp, fun b hb => ?_⟩
      have hT := LTok.raw rr q n o [97] hrr hq hn' ho (by decide) (raw_a q hq n hn' o ho)
      have e0 : rawRow rr q n o [97] = [rr] ++ [q] ++ List.replicate n 45 ++ [o] ++ [97] ++ [closeOf o] ++ List.replicate n 45 ++ [q] := by simp [rawRow, rawCl]
      rw [e0] at hT
      exact fin3 hb hP6 ((((k1.trans k2).trans k3).trans k4).trans (k5.trans k6)) hT
    · walk_at "s"
      walk_at "s"
      walk_at "v"
      refine c_pick (by omega) (by decide) hP5 fun i hi H6 hP6 k6 => ?_
      obtain ⟨rr, hrr, er⟩ := rR_tab i (by omega)
      refine sub_str (by omega) (by rw [len2.2]; omega) (by rw [len2.2]; decide) ?_ rfl
      rw [er]
      walk_at "v"
      refine b_cat (by rw [mk_len, mk_len]; show 2 ≤ sizeLine; decide) ?_
      rw [mk_app]
      walk_at "v"
      refine b_cat (by simp only [mk_len, List.length_append, List.length_cons, List.length_nil, List.length_replicate]; rw [sizeLine_eq]; omega) ?_
      rw [mk_app]
      walk_at "v"
      refine b_cat (by simp only [mk_len, List.length_append, List.length_cons, List.length_nil, List.length_replicate]; rw [sizeLine_eq]; omega) ?_
      rw [mk_app]
      walk_at "v"
      refine b_cat (by simp only [mk_len, List.length_append, List.length_cons, List.length_nil, List.length_replicate]; rw [sizeLine_eq]; omega) ?_
      rw [mk_app]
      walk_at "v"
      refine b_cat (by simp only [mk_len, List.length_append, List.length_cons, List.length_nil, List.length_replicate]; rw [sizeLine_eq]; omega) ?_
      rw [mk_app]
      walk_at "v"
      refine b_cat (by simp only [mk_len, List.length_append, List.length_cons, List.length_nil, List.length_replicate]; rw [sizeLine_eq]; omega) ?_
      rw [mk_app]
      walk_at "v"
      refine b_cat (by simp only [mk_len, List.length_append, List.length_cons, List.length_nil, List.length_replicate]; rw [sizeLine_eq]; omega) ?_
      rw [mk_app]
      walk_at "v"
      refine ⟨by simp, fun b hb => ?_⟩
      have hT := LTok.raw rr q n o v hrr hq hn' ho hvl ((raw_tab q hq n hn' o ho v hv).resolve_right (by rw [hc]; decide))
      have e0 : rawRow rr q n o v = [rr] ++ [q] ++ List.replicate n 45 ++ [o] ++ v ++ [closeOf o] ++ List.replicate n 45 ++ [q] := by simp [rawRow, rawCl]
      rw [e0] at hT
      exact fin3 hb hP6 ((((k1.trans k2).trans k3).trans k4).trans (k5.trans k6)) hT
  walk_at "s"
  walk_at "s"
  walk_at "v"
  refine ⟨.bi "str.split", trivial, m_split, ?_⟩
  walk_at "v"
  refine k_split (by decide +kernel) (by decide +kernel) fun a ha => ?_
  rw [split_ops]
  obtain ⟨po1, hpo1⟩ := hP1.some
  have xa := Ext.new (o := AO.lst (avStrs (opTexts.map Str.ofString))) (Ext.refl H1) ha
  walk_at "s"
  walk_at "v"
  refine k_lenL (upd_same _ _ _) (by decide) ?_
  walk_at "v"
  refine c_pick (by omega) (by decide) (hP1.ext xa) fun i hi H2 hP2 k2 => ?_
  have hi' : i < opTexts.length := by
    have : (avStrs (opTexts.map Str.ofString)).length = opTexts.length := by decide
    omega
  obtain ⟨y, hy⟩ : ∃ y, opTexts[i]? = some y := ⟨_, List.getElem?_eq_getElem hi'⟩
  have hym := List.mem_of_getElem? hy
  have h43 : opTexts.length = 43 := by decide
  refine sub_lst (v := .str (Str.ofString y)) (k2 a _ (kp_ne hpo1 ha) (upd_same _ _ _)) (by omega) (by omega) ?_ ?_ rfl
  · rw [Int.toNat_natCast]
    show ((opTexts.map Str.ofString).map AV.str)[i]? = _
    rw [List.getElem?_map, List.getElem?_map, hy]; rfl
  walk_at "s"
  walk_at "v"
  rw [op_star y hym]
  have hT := LTok.op y hym
  have kk := k1.trans (Ext.keep xa k2)
  refine ⟨_, rfl, fun hs => ?_, fun hs => ?_⟩
  · walk_at "v"
    refine ⟨by simp, fun b hb => ?_⟩
    have hs' : y = "**" := by simpa using hs
    rw [if_pos hs'] at hT
    rw [← mk_cpsS y]
    exact fin3 hb hP2 kk hT
  · walk_at "v"
    refine ⟨by simp, fun b hb => ?_⟩
    have hs' : ¬ y = "**" := by simpa using hs
    rw [if_neg hs'] at hT
    have e := fin3 hb hP2 kk hT
    rw [mk_cpsS y] at e
    exact e
end

section
variable {W : Wd} {fi : Fi} {dp un : Nat} {loc : Loc} {H : AH} {X : Xs} {R : AV → AH → Prop}
noncomputable def sepT : List Nat := [32, 13, 35, 12, 9, 10]
structure GapP (g : List Nat) : Prop where
  sk : ∀ rest, skipG false (g ++ rest) = (g.length + (skipG false rest).1, decide (10 ∈ g) || (skipG false rest).2)
  hd : ∀ c r, g = c :: r → c ∈ sepT
theorem gap_nil : GapP [] := ⟨fun rest => by simp, fun c r e => by cases e⟩
theorem gap_app {a b : List Nat} (h1 : GapP a) (h2 : GapP b) : GapP (a ++ b) := by
  refine ⟨fun rest => ?_, fun c r e => ?_⟩
  · rw [List.append_assoc, h1.sk, h2.sk, List.length_append, Nat.add_assoc, ← Bool.or_assoc]
    congr 2
    simp [List.mem_append]
  · cases a with
    | nil => exact h2.hd c r e
    | cons x y =>
      injection e with e1 e2
      exact e1 ▸ h1.hd x y rfl
noncomputable def gapT : List (List Nat) := [[32], [13, 10], [35, 32, 97, 32, 39, 32, 37, 10], [12], [35, 10], [9], [10]]
theorem gap_tab : ∀ g ∈ gapT, GapP g := by
  intro g hg
  simp only [gapT, List.mem_cons, List.not_mem_nil, or_false] at hg
  rcases hg with rfl | rfl | rfl | rfl | rfl | rfl | rfl <;> refine ⟨fun rest => ?_, fun c r e => ?_⟩ <;> first | (cases e; decide) | (simp [skipG]; done) | (simp [skipG, Nat.add_comm]; done) | (simp [skipG]; omega)
theorem gapT_len : ∀ g ∈ gapT, g.length ≤ 8 ∧ g ≠ [] := by decide
theorem gap_l1 : [Str.ofString " ", Str.ofString "\t", Str.ofString "\n"] = [[32], [9], [10]].map mk := by decide +kernel
theorem gap_l2 : [Str.ofString " ", Str.ofString "\r\n", Str.ofString "# a ' %\n", Str.ofString "\x0c", Str.ofString "#\n", Str.ofString "\t"] = [[32], [13, 10], [35, 32, 97, 32, 39, 32, 37, 10], [12], [35, 10], [9]].map mk := by decide +kernel

theorem c_lgap {p F : Addr} {must : Bool} (hd : dp ≤ 600) (hP : Pl H p F) (r : ∀ g H', GapP g → g.length ≤ 24 → (must = true → g ≠ []) → Pl H' p F → Keep p H H' → R (.str (mk g)) H') :
    Call_OK W dp un H (.ref 350) [.ref p, .bool must] R X := by
  ((refine' call_def (dp' := _) (un' := _) (fnAt_of ?ho ?hcd ?a ?b ?c ?d ?ne) (binds_of ?hb) ?hl (Nat.le_refl _) (Nat.le_refl _) ?hr ?body); (case ho => intro w; k_is); (case hcd => intro w; k_is); (case a => rfl); (case b => rfl); (case c => rfl); (case d => rfl); (case ne => decide +kernel); (case hb => first | exact binds0 rfl | exact binds1 fun _ => rfl | exact binds2 fun _ _ => rfl | exact binds3 fun _ _ _ => rfl | exact binds5 fun _ _ _ _ _ => rfl); (case hl => rfl); (case hr => omega))
  walk_at "s"
  walk_at "v"
  rw [lit_emp]
  walk_at "s"
  walk_at "v"
  refine c_pick (by omega) (by decide) hP fun n hn H1 hP1 k1 => ?_
  walk_at "s"
  refine t_andJ ?_
  walk_at "v"
  refine ⟨_, rfl, ?_⟩
  (apply jTst; focus (intro _))
  · walk_at "v"
    exact ⟨_, rfl, rfl, rfl⟩
  have go : ∀ (g0 : List Nat) (H2 : AH), GapP g0 → g0.length ≤ 1 → ((must && ((n : Int) == 0)) = true → g0 ≠ []) → Pl H2 p F → Keep p H H2 → True := fun _ _ _ _ _ _ _ => trivial
  refine ⟨fun hA => ?_, fun hB => ?_⟩
  · refine ss_cons (s_assign ?_ rfl (fun _ => rfl))
    refine e_pickS (xs := [Str.ofString " ", Str.ofString "\t", Str.ofString "\n"]) (by omega) rfl (by decide) (by decide) (by decide) rfl rfl rfl hP1 fun x hx H2 hP2 k2 => ?_
    obtain ⟨g0, hg0, rfl⟩ : ∃ g0 ∈ [[32], [9], [10]], x = mk g0 := by
      rw [gap_l1] at hx
      obtain ⟨v, hv, rfl⟩ := List.mem_map.mp hx
      exact ⟨v, hv, rfl⟩
    have hgm : g0 ∈ gapT := (by decide : ∀ g ∈ [[32], [9], [10]], g ∈ gapT) g0 hg0
    have n0 : n = 0 := by
      rw [Bool.and_eq_true] at hA
      have := hA.2
      simpa using this
    subst n0
    walk_at "s"
    refine ss_forJ (σ := Unit) (τ := Unit) (fun _ => True) (fun _ => [("row", .str (mk g0))]) (fun _ => H2) rfl (fun _ _ => rfl) ?_ ?_
    · walk_at "v"
      refine k_range fun a ha => ?_
      refine ⟨_, _, fun _ _ => True, fun _ => [("row", .str (mk g0))], fun _ => H2, (), .inr (.inl ⟨a, 0, rfl, upd_same _ _ _, by decide, by decide, rfl, rfl⟩), trivial, ⟨rfl, trivial⟩, Ext.new (Ext.refl _) ha, ?_, ?_⟩
      · intro k st av _ hav
        cases hav
      · intro st _
        exact ⟨(), trivial, ⟨rfl, trivial⟩, Ext.refl _⟩
    · intro _ _
      walk_at "s"
      walk_at "v"
      exact r g0 H2 (gap_tab g0 hgm) (by have := (gapT_len g0 hgm).1; omega) (fun _ => (gapT_len g0 hgm).2) hP2 (k1.trans k2)
  · walk_at "s"
    refine ss_forJ (σ := List Nat × AH) (τ := List Nat × AH) (fun st => GapP st.1 ∧ st.1.length ≤ 24 ∧ (must = true → st.1 ≠ []) ∧ Pl st.2 p F ∧ Keep p H st.2) (fun st => [("row", .str (mk st.1))]) (fun st => st.2) rfl (fun _ _ => rfl) ?_ ?_
    · walk_at "v"
      refine k_range fun a ha => ?_
      refine ⟨_, _, fun k (st : List Nat × AH) => GapP st.1 ∧ st.1.length ≤ 8 * k ∧ (0 < k → st.1 ≠ []) ∧ Pl st.2 p F ∧ Keep p H st.2, fun st => [("pool", .ref p), ("row", .str (mk st.1))], fun st => st.2, ([], H1), .inr (.inl ⟨a, n, rfl, upd_same _ _ _, by omega, by omega, rfl, rfl⟩), ⟨gap_nil, by simp, fun z => absurd z (by decide), hP1, k1⟩, ⟨rfl, rfl, trivial⟩, Ext.new (Ext.refl _) ha, ?_, ?_⟩
      · rintro k ⟨g, H2⟩ av ⟨i1, i2, i3, i4, i5⟩ hav
        have hk : k < n := by
          have := (List.getElem?_eq_some_iff.mp hav).1
          simpa using this
        dsimp only at i1 i2 i3 i4 i5
        refine ss_cons (s_aug rfl ?_ rfl)
        refine e_pickS (xs := [Str.ofString " ", Str.ofString "\r\n", Str.ofString "# a ' %\n", Str.ofString "\x0c", Str.ofString "#\n", Str.ofString "\t"]) (by omega) rfl (by decide) (by decide) (by decide) rfl rfl rfl i4 fun x hx H3 hP3 k3 => ?_
        obtain ⟨g0, hg0, rfl⟩ : ∃ g0 ∈ [[32], [13, 10], [35, 32, 97, 32, 39, 32, 37, 10], [12], [35, 10], [9]], x = mk g0 := by
          rw [gap_l2] at hx
          obtain ⟨v, hv, rfl⟩ := List.mem_map.mp hx
          exact ⟨v, hv, rfl⟩
        have hgm : g0 ∈ gapT := (by decide : ∀ g ∈ [[32], [13, 10], [35, 32, 97, 32, 39, 32, 37, 10], [12], [35, 10], [9]], g ∈ gapT) g0 hg0
        have hgl := gapT_len g0 hgm
        refine i_cat (by rw [mk_len, mk_len, sizeLine_eq]; dsimp only; omega) ?_
        rw [mk_app]
        walk_at "s"
        refine ⟨(g ++ g0, H3), ⟨gap_app i1 (gap_tab g0 hgm), ?_, ?_, hP3, i5.trans k3⟩, ⟨rfl, rfl, trivial⟩, Ext.refl _⟩
        · show (g ++ g0).length ≤ _
          rw [List.length_append]; omega
        · intro _ z
          exact hgl.2 (List.append_eq_nil_iff.mp z).2
      · rintro ⟨g, H2⟩ ⟨i1, i2, i3, i4, i5⟩
        rw [List.length_map, List.length_range] at i2 i3
        refine ⟨(g, H2), ⟨i1, by dsimp only at i2 ⊢; omega, fun hm => i3 ?_, i4, i5⟩, ⟨rfl, trivial⟩, Ext.refl _⟩
        rw [hm, Bool.true_and] at hB
        have : (n : Int) ≠ 0 := by simpa using hB
        omega
    · rintro ⟨g, H2⟩ ⟨i1, i2, i3, i4, i5⟩
      walk_at "s"
      walk_at "v"
      exact r g H2 i1 i2 i3 i4 i5
end

section
variable {W : Wd} {fi : Fi} {dp un : Nat} {loc : Loc} {H : AH} {X : Xs} {R : AV → AH → Prop}
noncomputable def faultT : List (String × String × Int) := [("", "", 0), ("\"ab", "unfinished_string", 0), ("'a\\", "unfinished_string", 0), ("\"\\q\"", "bad_escape", 1), ("\"a\\0\"", "bad_escape", 2), ("\"\\xg\"", "bad_escape", 1), ("\"\\u{41\"", "bad_escape", 1), ("\"\\ud800\"", "bad_escape", 1), ("\"\\U110000\"", "bad_escape", 1), ("\"\\ \"", "bad_escape", 1), ("%in", "bad_character", 0), ("%a\n%", "bad_character", 0), ("`a", "unfinished_string", 0), ("``", "bad_character", 0), ("r\"x\"", "bad_character", 0), ("r\"-(x)\"", "unfinished_string", 0), ("0x", "bad_number", 0), ("0x1p3", "bad_number", 0), ("0x1.8", "bad_number", 0), ("1e5000", "bad_number", 0), ("1e", "bad_number", 0), ("1e-", "bad_number", 0), ("2i", "bad_number", 0), ("_a", "bad_character", 0), ("\u00e9", "bad_character", 0), ("\x0b", "bad_character", 0)]
noncomputable def frow (q : String × String × Int) : List AV := [.str (Str.ofString q.1), .str (Str.ofString q.2.1), .int q.2.2]
theorem chr_e9 : (⟨#[Int.toNat 233]⟩ : Str) = Str.ofString "\u00e9" := by decide +kernel
theorem chr_0b : (⟨#[Int.toNat 11]⟩ : Str) = Str.ofString "\x0b" := by decide +kernel
theorem c_lfaults (hd : dp ≤ 700) (r : ∀ l (as : List Addr) H', H l = none → H' l = some (.lst (as.map AV.ref)) → as.length = faultT.length → (∀ (j : Nat) vs, (faultT.map frow)[j]? = some vs → ∃ a, as[j]? = some a ∧ H a = none ∧ H' a = some (.tup vs)) → Ext H H' → R (.ref l) H') :
    Call_OK W dp un H (.ref 357) [] R X := by
  ((refine' call_def (dp' := _) (un' := _) (fnAt_of ?ho ?hcd ?a ?b ?c ?d ?ne) (binds_of ?hb) ?hl (Nat.le_refl _) (Nat.le_refl _) ?hr ?body); (case ho => intro w; k_is); (case hcd => intro w; k_is); (case a => rfl); (case b => rfl); (case c => rfl); (case d => rfl); (case ne => decide +kernel); (case hb => first | exact binds0 rfl | exact binds1 fun _ => rfl | exact binds2 fun _ _ => rfl | exact binds3 fun _ _ _ => rfl | exact binds5 fun _ _ _ _ _ => rfl); (case hl => rfl); (case hr => omega))
  walk_at "s"
  refine e_rows (vss := faultT.map frow) ?_ (by decide) fun l as H' h1 h2 h3 h4 h5 => r l as H' h1 h2 (by rw [h3, List.length_map]) h4 h5
  iterate 24 (refine AllT.cons (mkT_of rfl (by show 3 ≤ 1000; decide)) ?_)
  refine AllT.cons ⟨rfl, fun {H R} r => ?_⟩ (AllT.cons ⟨rfl, fun {H R} r => ?_⟩ .nil)
  · walk_at "v"
    refine k_chr (by decide) (by decide) ?_
    rw [chr_e9]
    walk_at "v"
    exact ⟨by simp, r⟩
  · walk_at "v"
    refine k_chr (by decide) (by decide) ?_
    rw [chr_0b]
    walk_at "v"
    exact ⟨by simp, r⟩

theorem ft_kind : FieldAt 114 "kind" := ⟨fun w => ⟨by k_is, by k_is, _, by k_is, by k_is⟩⟩
theorem ft_value : FieldAt 114 "value" := ⟨fun w => ⟨by k_is, by k_is, _, by k_is, by k_is⟩⟩
theorem ft_at : FieldAt 114 "at" := ⟨fun w => ⟨by k_is, by k_is, _, by k_is, by k_is⟩⟩
theorem ft_newline : FieldAt 114 "newline" := ⟨fun w => ⟨by k_is, by k_is, _, by k_is, by k_is⟩⟩
theorem fv_kind : FieldAt 78 "kind" := ⟨fun w => ⟨by k_is, by k_is, _, by k_is, by k_is⟩⟩
theorem fv_items : FieldAt 78 "items" := ⟨fun w => ⟨by k_is, by k_is, _, by k_is, by k_is⟩⟩
noncomputable def numDat : NV → PyData
  | .whole n => .tuple [.str "integer", .list [.int n]]
  | .num n d => .tuple [.str "double", .list [.tuple [.int n, .int d]]]
/-- what the token's value is as the law tells it -/
noncomputable def TokV (H : AH) (kind : Str) (v : AV) (d : PyData) : Prop := ((kind == "num") = false ∧ noFn v = true ∧ Den H v d) ∨ ((kind == "num") = true ∧ ∃ va z, v = .ref va ∧ NumAt H va z ∧ d = numDat z)

theorem c_ltold {t td : Addr} {kind : Str} {v : AV} {k : Int} {nl : Bool} {dv : PyData} (hd : dp ≤ 700) (hT : Tok_ H t td kind v k nl) (hv : TokV H kind v dv)
    (r : ∀ a H', Den H' (.ref a) (.tuple [.str kind, dv, .int k, .bool nl]) → H a = none → Ext H H' → R (.ref a) H') :
    Call_OK W dp un H (.ref 364) [.ref t] R X := by
  ((refine' call_def (dp' := _) (un' := _) (fnAt_of ?ho ?hcd ?a ?b ?c ?d ?ne) (binds_of ?hb) ?hl (Nat.le_refl _) (Nat.le_refl _) ?hr ?body); (case ho => intro w; k_is); (case hcd => intro w; k_is); (case a => rfl); (case b => rfl); (case c => rfl); (case d => rfl); (case ne => decide +kernel); (case hb => first | exact binds0 rfl | exact binds1 fun _ => rfl | exact binds2 fun _ _ => rfl | exact binds3 fun _ _ _ => rfl | exact binds5 fun _ _ _ _ _ => rfl); (case hl => rfl); (case hr => omega))
  walk_at "s"
  walk_at "v"
  rcases hv with ⟨hk, hnf, hden⟩ | ⟨hk, va, z, rfl, hz, rfl⟩
  · refine ⟨t, 114, td, _, v, rfl, hT.t, hT.td, ft_value, rfl, hnf, ?_⟩
    walk_at "s"
    walk_at "v"
    refine ⟨t, 114, td, _, .str kind, rfl, hT.t, hT.td, ft_kind, rfl, rfl, ?_⟩
    walk_at "v"
    rw [show (kind == Str.ofString "num") = false from hk]
    refine ⟨_, rfl, fun q => (nomatch q), fun _ => ?_⟩
    walk_at "s"
    walk_at "s"
    walk_at "v"
    refine ⟨t, 114, td, _, .str kind, rfl, hT.t, hT.td, ft_kind, rfl, rfl, ?_⟩
    walk_at "v"
    refine ⟨t, 114, td, _, .int k, rfl, hT.t, hT.td, ft_at, rfl, rfl, ?_⟩
    walk_at "v"
    refine ⟨t, 114, td, _, .bool nl, rfl, hT.t, hT.td, ft_newline, rfl, rfl, ?_⟩
    walk_at "v"
    refine ⟨by simp, fun a ha => ?_⟩
    have xa := Ext.new (o := AO.tup [.str kind, v, .int k, .bool nl]) (Ext.refl H) ha
    exact r a _ (.tup (upd_same _ _ _) (.cons (.str _) (.cons (Den.ext xa hden) (.cons (.int _) (.cons (.bool _) .nil))))) ha xa
  · refine ⟨t, 114, td, _, .ref va, rfl, hT.t, hT.td, ft_value, rfl, rfl, ?_⟩
    walk_at "s"
    walk_at "v"
    refine ⟨t, 114, td, _, .str kind, rfl, hT.t, hT.td, ft_kind, rfl, rfl, ?_⟩
    walk_at "v"
    rw [show (kind == Str.ofString "num") = true from hk]
    refine ⟨_, rfl, fun _ => ?_, fun q => (nomatch q)⟩
    walk_at "s"
    walk_at "v"
    have key : ∀ (vd li : Addr) (kk : Str) (dl : PyData), H va = some (.inst 78 vd) → H vd = some (.dict (vF kk li)) → Den H (.ref li) dl → True := fun _ _ _ _ _ _ _ => trivial
    obtain ⟨vd, li, kk, dl, q1, q2, q3, q4⟩ : ∃ (vd li : Addr) (kk : Str) (dl : PyData), H va = some (.inst 78 vd) ∧ H vd = some (.dict (vF kk li)) ∧ Den H (.ref li) dl ∧ numDat z = .tuple [.str kk, dl] := by
      cases z with
      | whole n =>
        obtain ⟨vd, li, a, b, c⟩ := hz
        exact ⟨vd, li, _, _, a, b, .lst c (.cons (.int _) .nil), rfl⟩
      | num n d =>
        obtain ⟨vd, li, tp, a, b, c, e⟩ := hz
        exact ⟨vd, li, _, _, a, b, .lst c (.cons (.tup e (.cons (.int _) (.cons (.int _) .nil))) .nil), rfl⟩
    refine ⟨va, 78, vd, _, .str kk, rfl, q1, q2, fv_kind, rfl, rfl, ?_⟩
    walk_at "v"
    refine ⟨va, 78, vd, _, .ref li, rfl, q1, q2, fv_items, rfl, rfl, ?_⟩
    walk_at "v"
    refine ⟨by simp, fun b hb => ?_⟩
    have xb := Ext.new (o := AO.tup [.str kk, .ref li]) (Ext.refl H) hb
    walk_at "s"
    walk_at "s"
    walk_at "v"
    refine ⟨t, 114, td, _, .str kind, rfl, xb _ _ hT.t, xb _ _ hT.td, ft_kind, rfl, rfl, ?_⟩
    walk_at "v"
    refine ⟨t, 114, td, _, .int k, rfl, xb _ _ hT.t, xb _ _ hT.td, ft_at, rfl, rfl, ?_⟩
    walk_at "v"
    refine ⟨t, 114, td, _, .bool nl, rfl, xb _ _ hT.t, xb _ _ hT.td, ft_newline, rfl, rfl, ?_⟩
    walk_at "v"
    refine ⟨by simp, fun a ha => ?_⟩
    have xa := Ext.new (o := AO.tup [.str kind, .ref b, .int k, .bool nl]) (Ext.refl _) ha
    rw [q4] at r
    exact r a _ (.tup (upd_same _ _ _) (.cons (.str _) (.cons (.tup (xa _ _ (upd_same _ _ _)) (.cons (.str _) (.cons (Den.ext (xb.trans xa) q3) .nil))) (.cons (.int _) (.cons (.bool _) .nil))))) (ext_none xb ha) (xb.trans xa)
end

/-! what stands behind a token -/
structure FWord (Y : List Nat) : Prop where
  n : onHd isN Y = false
  q : onHd (fun c => c == 39 || c == 34) Y = false
  a : asc Y = true
  e : onHd (fun c => c == 45 || c == 43) Y = false ∨ True
noncomputable def isOpC (c : Nat) : Bool := decide (c ∈ [60, 45, 62, 58, 124, 61, 33, 38, 91, 42])
noncomputable def FOp (Y : List Nat) : Prop := onHd isOpC Y = false
theorem onHd_app {p : Nat → Bool} {l Y : List Nat} (h : l ≠ [] ∨ onHd p Y = false) : onHd p (l ++ Y) = onHd p l := by
  cases l with
  | nil => simpa [onHd] using h
  | cons c r => rfl
theorem tw_app {p : Nat → Bool} : ∀ (l : List Nat) {Y : List Nat}, onHd p Y = false → (l ++ Y).takeWhile p = l.takeWhile p
  | [], [], _ => rfl
  | [], c :: r, h => by simp [List.takeWhile_cons, show p c = false from h]
  | x :: l, Y, h => by rw [List.cons_append, List.takeWhile_cons, List.takeWhile_cons, tw_app l h]
theorem nd_app {p : Nat → Bool} (l : List Nat) {Y : List Nat} (h : onHd p Y = false) : nd p (l ++ Y) = nd p l := by unfold nd; rw [tw_app l h]
theorem nd_len (p : Nat → Bool) (l : List Nat) : nd p l ≤ l.length := nd_le p l
theorem dr_app {n : Nat} {l : List Nat} (Y : List Nat) (h : n ≤ l.length) : (l ++ Y).drop n = l.drop n ++ Y := List.drop_append_of_le_length h
theorem onHd_imp {p q : Nat → Bool} (hpq : ∀ c, p c = true → q c = true) {Y : List Nat} (h : onHd q Y = false) : onHd p Y = false := by
  cases Y with
  | nil => rfl
  | cons c r =>
    show p c = false
    cases e : p c with
    | false => rfl
    | true => have := hpq c e; rw [show q c = false from h] at this; cases this
theorem isD_isN (c : Nat) (h : isD c = true) : isN c = true := by unfold isN; rw [h]; simp
theorem isL_isN (c : Nat) (h : isL c = true) : isN c = true := by unfold isN; rw [h]; simp
theorem dot_isN (c : Nat) (h : (c == 46) = true) : isN c = true := by unfold isN; rw [h]; simp
theorem isE_isN (c : Nat) (h : (c == 101 || c == 69) = true) : isN c = true := by
  rw [Bool.or_eq_true, beq_iff_eq, beq_iff_eq] at h
  rcases h with rfl | rfl <;> decide
theorem isH_isN (c : Nat) (h : isH c = true) : isN c = true := by
  have hlt := hexT_lt h
  exact (by decide : ∀ c < 128, isH c = true → isN c = true) c hlt h
theorem FWord.d {Y : List Nat} (h : FWord Y) : onHd isD Y = false := onHd_imp isD_isN h.n
theorem FWord.dot {Y : List Nat} (h : FWord Y) : onHd (fun c => c == 46) Y = false := onHd_imp dot_isN h.n
theorem FWord.ee {Y : List Nat} (h : FWord Y) : isE Y = false := onHd_imp isE_isN h.n
theorem FWord.h {Y : List Nat} (h : FWord Y) : onHd isH Y = false := onHd_imp isH_isN h.n
theorem FWord.i {Y : List Nat} (h : FWord Y) : onHd (fun c => c == 105) Y = false := onHd_imp (fun c e => by rw [beq_iff_eq] at e; subst e; decide) h.n
theorem FWord.l {Y : List Nat} (h : FWord Y) : onHd (fun c => c == 76) Y = false := onHd_imp (fun c e => by rw [beq_iff_eq] at e; subst e; decide) h.n
theorem FWord.x {Y : List Nat} (h : FWord Y) : onHd (fun c => c == 120 || c == 88) Y = false := onHd_imp (fun c e => by rw [Bool.or_eq_true, beq_iff_eq, beq_iff_eq] at e; rcases e with rfl | rfl <;> decide) h.n
theorem FWord.p {Y : List Nat} (h : FWord Y) : onHd (fun d => d == 46 || (d == 112 || d == 80)) Y = false := onHd_imp (fun c e => by rw [Bool.or_eq_true, Bool.or_eq_true, beq_iff_eq, beq_iff_eq, beq_iff_eq] at e; rcases e with rfl | rfl | rfl <;> decide) h.n

theorem numHead_app (l : List Nat) {Y : List Nat} (h : FWord Y) : numHead (l ++ Y) = numHead l := by
  have h1 := nd_len isD l
  unfold numHead
  rw [nd_app l h.d, tw_app l h.d, dr_app Y h1, onHd_app (.inr h.dot)]
  by_cases c : onHd (fun c => c == 46) (l.drop (nd isD l)) = true
  · have h2 : nd isD l + 1 ≤ l.length := by
      cases e : l.drop (nd isD l) with
      | nil => rw [e] at c; cases c
      | cons x r =>
        have := congrArg List.length e
        rw [List.length_drop, List.length_cons] at this; omega
    rw [if_pos c, if_pos c, dr_app Y h2, tw_app _ h.d, nd_app _ h.d]
  · rw [if_neg c, if_neg c]
theorem numHead_le (l : List Nat) : (numHead l).2.2 ≤ l.length := by
  have h1 := nd_len isD l
  unfold numHead
  split
  · rename_i c
    have h2 : nd isD l + 1 ≤ l.length := by
      cases e : l.drop (nd isD l) with
      | nil => rw [e] at c; cases c
      | cons x r =>
        have := congrArg List.length e
        rw [List.length_drop, List.length_cons] at this; omega
    have h3 := nd_len isD (l.drop (nd isD l + 1))
    rw [List.length_drop] at h3
    show nd isD l + 1 + nd isD (l.drop (nd isD l + 1)) ≤ _
    omega
  · exact h1
theorem expo_app {m : List Nat} {Y : List Nat} (hm : m ≠ []) (h : FWord Y) : expo (m ++ Y) = expo m := by
  have s1 : sgn (m ++ Y) = sgn m := by unfold sgn; rw [onHd_app (.inl hm), onHd_app (.inl hm)]
  have s2 : expD (m ++ Y) = expD m := by
    unfold expD
    have : sgn m ≤ m.length := by
      unfold sgn; split
      · cases m with
        | nil => exact absurd rfl hm
        | cons _ _ => simp
      · exact Nat.zero_le _
    rw [s1, dr_app Y this, tw_app _ h.d]
  unfold expo
  rw [s1, s2, onHd_app (.inl hm)]
theorem numP_app {l : List Nat} {Y : List Nat} (h : FWord Y) (hm : isE (l.drop (numHead l).2.2) = true → l.drop ((numHead l).2.2 + 1) ≠ []) : numP (l ++ Y) = numP l := by
  have h1 := numHead_le l
  unfold numP
  rw [numHead_app l h, dr_app Y h1, show isE (l.drop (numHead l).2.2 ++ Y) = isE (l.drop (numHead l).2.2) from onHd_app (.inr h.ee)]
  by_cases c : isE (l.drop (numHead l).2.2) = true
  · have h2 := hm c
    have h3 : (numHead l).2.2 + 1 ≤ l.length := by
      apply Nat.le_of_not_lt
      intro q
      exact h2 (List.drop_of_length_le (by omega))
    rw [if_pos c, if_pos c, dr_app Y h3, expo_app h2 h]
  · rw [if_neg c, if_neg c]

/-! tables of the rows -/
theorem id_tab : ∀ x ∈ idT, (cps x).takeWhile isN = cps x ∧ kws.any (· == mk (cps x)) = false ∧ numStart (cps x) = false ∧ rawStart (cps x) = false ∧ wordStart (cps x) = true ∧ cps x ≠ [] := by decide +kernel
theorem key_tab : ∀ x ∈ keyT, (cps x).takeWhile isN = cps x ∧ kws.any (· == mk (cps x)) = true ∧ numStart (cps x) = false ∧ rawStart (cps x) = false ∧ wordStart (cps x) = true ∧ cps x ≠ [] := by decide +kernel
noncomputable def NV.beq : NV → NV → Bool
  | .whole a, .whole b => a == b
  | .num a b, .num c d => a == c && b == d
  | _, _ => false
theorem NV.of_beq {a b : NV} (h : NV.beq a b = true) : a = b := by
  cases a <;> cases b <;> simp_all [NV.beq]
noncomputable def numOf (q : String × String × Int × Int) : NV := if q.2.1 = "integer" then .whole q.2.2.1 else .num q.2.2.1 q.2.2.2
/-- a decimal row, read -/
noncomputable def decOk (q : String × String × Int × Int) : Bool := match numP (cps q.1) with
  | none => false
  | some (ds, sc, e) => decide (0 ≤ dval ds) && decide (dval ds < 2 ^ 40) && decide (-6 ≤ sc) && decide (sc ≤ 6) && !onHd (fun c => c == 105) ((cps q.1).drop e) && decide (e ≤ (cps q.1).length) &&
    NV.beq (numV (numN (dval ds).toNat sc) (numD sc) (onHd (fun c => c == 76) ((cps q.1).drop e))) (numOf q) && decide (e + (if onHd (fun c => c == 76) ((cps q.1).drop e) then 1 else 0) = (cps q.1).length)
noncomputable def hexOk (q : String × String × Int × Int) : Bool := !badX ((cps q.1).drop 2) && decide (0 ≤ hval (((cps q.1).drop 2).takeWhile isH)) && decide (hval (((cps q.1).drop 2).takeWhile isH) < 2 ^ 62) && !onHd (fun c => c == 105) (((cps q.1).drop 2).dropWhile isH) && asc (((cps q.1).drop 2).dropWhile isH) &&
  NV.beq (numV (hval (((cps q.1).drop 2).takeWhile isH)).toNat 1 (onHd (fun c => c == 76) (((cps q.1).drop 2).dropWhile isH))) (numOf q) &&
  decide (2 + nd isH ((cps q.1).drop 2) + (if onHd (fun c => c == 76) (((cps q.1).drop 2).dropWhile isH) then 1 else 0) = (cps q.1).length) && decide (2 ≤ (cps q.1).length)
theorem num_tab : ∀ q ∈ numT', numStart (cps q.1) = true ∧ cps q.1 ≠ [] ∧ (if hexS (cps q.1) then hexOk q else decOk q) = true ∧ (isE ((cps q.1).drop (numHead (cps q.1)).2.2) = true → (cps q.1).drop ((numHead (cps q.1)).2.2 + 1) ≠ []) := by decide +kernel
theorem numDat_of : ∀ q ∈ numT', numDat (numOf q) = numVal q.2.1 q.2.2.1 q.2.2.2 := by
  intro q hq
  unfold numOf numVal
  have hk := (by decide : ∀ q ∈ numT', q.2.1 = "integer" ∨ q.2.1 = "double") q hq
  rcases hk with h | h
  · rw [if_pos h, if_pos h, h]; rfl
  · rw [h]; rfl
noncomputable def opSimple (x : String) : Bool := onHd (fun c => c == 37) (cps x) == false
theorem op_tab : ∀ x ∈ opTexts, cps x ≠ [] ∧ numStart (cps x) = false ∧ onHd (fun c => c == 46) (cps x) = false ∧ rawStart (cps x) = false ∧ onHd (fun c => decide (c ∈ [114, 82])) (cps x) = false ∧ wordStart (cps x) = false ∧ quoStart (cps x) = false ∧ onHd (fun c => c == 96) (cps x) = false := by decide +kernel
theorem pct_tab : ∀ x ∈ opTexts, onHd (fun c => c == 37) (cps x) = true → ∃ n, pct ((cps x).drop 1) = some n ∧ n + 2 = (cps x).length ∧ x ≠ "**" := by
  intro x hx h
  have := (by decide +kernel : ∀ x ∈ opTexts, onHd (fun c => c == 37) (cps x) = true → pct ((cps x).drop 1) = some ((cps x).length - 2) ∧ (cps x).length - 2 + 2 = (cps x).length ∧ x ≠ "**") x hx h
  exact ⟨_, this⟩
theorem sep_tab : (∀ x ∈ idT, onHd (fun c => decide (c ∈ sepT)) (cps x) = false) ∧ (∀ x ∈ keyT, onHd (fun c => decide (c ∈ sepT)) (cps x) = false) ∧ (∀ q ∈ numT', onHd (fun c => decide (c ∈ sepT)) (cps q.1) = false) ∧ (∀ x ∈ opTexts, onHd (fun c => decide (c ∈ sepT)) (cps x) = false) ∧ onHd (fun c => decide (c ∈ sepT)) (cps "`if`") = false := by decide +kernel
theorem ltok_sep {row : List Nat} {k : String} {v : PyData} (h : LTok row k v) : row ≠ [] ∧ onHd (fun c => decide (c ∈ sepT)) row = false := by
  obtain ⟨s1, s2, s3, s4, s5⟩ := sep_tab
  cases h with
  | id x hx => exact ⟨(id_tab x hx).2.2.2.2.2, s1 x hx⟩
  | key x hx => exact ⟨(key_tab x hx).2.2.2.2.2, s2 x hx⟩
  | bq body v h1 h2 h3 h4 => exact ⟨by simp, show decide (96 ∈ sepT) = false by decide⟩
  | bqif => exact ⟨by decide +kernel, s5⟩
  | num q hq => exact ⟨(num_tab q hq).2.1, s3 q hq⟩
  | str q body v h1 h2 h3 h4 => exact ⟨by simp, by rcases h1 with rfl | rfl <;> first | exact (show decide (39 ∈ sepT) = false by decide) | exact (show decide (34 ∈ sepT) = false by decide)⟩
  | raw r q n o v h1 h2 h3 h4 h5 h6 => exact ⟨by simp [rawRow], (by decide : ∀ r ∈ [114, 82], decide (r ∈ sepT) = false) r h1⟩
  | op x hx => exact ⟨(op_tab x hx).1, s4 x hx⟩
theorem skip_sep {l : List Nat} (h : onHd (fun c => decide (c ∈ sepT)) l = false) : skipG false l = (0, false) := by
  cases l with
  | nil => rfl
  | cons c r =>
    have hc : decide (c ∈ sepT) = false := h
    rw [decide_eq_false_iff_not] at hc
    simp only [sepT, List.mem_cons, List.not_mem_nil, or_false, not_or] at hc
    obtain ⟨a, b, d, e, f, g⟩ := hc
    simp [skipG, a, b, d, e, f, g]
theorem tl_len' (T : Str) (m : Nat) : (tl T m).length = T.length - m := by unfold tl; rw [List.length_drop, str_len]
theorem from_nat (n m : Nat) : PySem.fromIndex n (m : Int) = m := by unfold PySem.fromIndex; rw [if_neg (by omega)]; omega
theorem at_iff (T : Str) (cl : List Nat) (m i : Nat) (hcl : cl ≠ []) : StrLaws.At T (mk cl) T.length (m + i) ↔ ((tl T m).drop i).take cl.length = cl := by
  unfold StrLaws.At
  rw [StrLaws.subAt_eq, mk_toList, mk_len, beq_iff_eq, show T.cps.toList.drop (m + i) = (tl T m).drop i from by unfold tl; rw [List.drop_drop]]
  constructor
  · exact fun h => h.2
  · intro h
    refine ⟨?_, h⟩
    have h1 := congrArg List.length h
    rw [List.length_take, List.length_drop, tl_len'] at h1
    have : cl.length ≠ 0 := fun z => hcl (List.length_eq_zero_iff.mp z)
    omega
theorem find_first {T : Str} {m : Nat} {v cl Y : List Nat} (h : tl T m = v ++ (cl ++ Y)) (hcl : cl ≠ []) (hf : ∀ i < v.length, cl.isPrefixOf ((v ++ cl).drop i) = false) :
    Txt.find3 T (mk cl) (m : Int) = ((m + v.length : Nat) : Int) := by
  have hat : StrLaws.At T (mk cl) T.length (m + v.length) := by
    rw [at_iff T cl m _ hcl, h, List.drop_left, List.take_left]
  have hno : ∀ k, m ≤ k → k < m + v.length → ¬ StrLaws.At T (mk cl) T.length k := fun k h1 h2 ha => by
    obtain ⟨i, rfl⟩ : ∃ i, k = m + i := ⟨k - m, by omega⟩
    have hi : i < v.length := by omega
    rw [at_iff T cl m _ hcl, h] at ha
    have e : ((v ++ (cl ++ Y)).drop i).take cl.length = ((v ++ cl).drop i).take cl.length := by
      rw [← List.append_assoc, List.drop_append_of_le_length (by rw [List.length_append]; omega), List.take_append_of_le_length (by rw [List.length_drop, List.length_append]; omega)]
    rw [e] at ha
    have hp : cl.isPrefixOf ((v ++ cl).drop i) = true := by
      rw [List.isPrefixOf_iff_prefix, List.prefix_iff_eq_take]; exact ha.symm
    rw [hf i hi] at hp; cases hp
  unfold Txt.find3
  rw [from_nat]
  rcases StrLaws.occ_head_from T (mk cl) m 1 (Nat.le_refl 1) with ⟨_, hn⟩ | ⟨k, r, h0, hlo, hk, hn⟩
  · exact absurd hat (hn _ (Nat.le_add_right _ _))
  · rw [h0]
    have : k = m + v.length := by
      rcases Nat.lt_trichotomy k (m + v.length) with q | q | q
      · exact absurd hk (hno k hlo q)
      · exact q
      · exact absurd hat (hn _ (Nat.le_add_right _ _) q)
    rw [this]
theorem find_no {T : Str} {m : Nat} {cl : List Nat} (hcl : cl ≠ []) (hf : ∀ i, ((tl T m).drop i).take cl.length ≠ cl) : Txt.find3 T (mk cl) (m : Int) < 0 := by
  unfold Txt.find3
  rw [from_nat]
  rcases StrLaws.occ_head_from T (mk cl) m 1 (Nat.le_refl 1) with ⟨h0, _⟩ | ⟨k, r, h0, hlo, hk, _⟩
  · rw [h0]; decide
  · obtain ⟨i, rfl⟩ : ∃ i, k = m + i := ⟨k - m, by omega⟩
    exact absurd ((at_iff T cl m i hcl).mp hk) (hf i)

/-! operators -/
theorem O_all : (∀ t ∈ O3, t.all isOpC = true ∧ t.length = 3) ∧ (∀ t ∈ O2, t.all isOpC = true) := by decide
theorem op_tab2 : ∀ x ∈ opTexts, onHd (fun c => c == 37) (cps x) = false → ((cps x ∈ O3 ∧ cps x ∈ O2) ∨ ((cps x).length = 2 ∧ cps x ∈ O2) ∨ ((cps x).length = 1 ∧ cps x ∉ O2 ∧ ∀ c ∈ cps x, c ∈ O1)) := by decide +kernel
theorem O2_len : ∀ t ∈ O2, 2 ≤ t.length := by decide
theorem take_no {n : Nat} {row Y : List Nat} {L : List (List Nat)} (hL : ∀ t ∈ L, t.all isOpC = true) (hY : FOp Y) (hn : row.length < n) (hr : row ∉ L) : (row ++ Y).take n ∉ L := by
  intro h
  cases Y with
  | nil => rw [List.append_nil, List.take_of_length_le (Nat.le_of_lt hn)] at h; exact hr h
  | cons d r =>
    have h1 := hL _ h
    obtain ⟨k, hk⟩ : ∃ k, n - row.length = k + 1 := ⟨n - row.length - 1, by omega⟩
    rw [List.take_append, hk, List.take_succ_cons, List.all_append, List.all_cons, Bool.and_eq_true, Bool.and_eq_true] at h1
    rw [show isOpC d = false from hY] at h1
    exact absurd h1.2.1 (by decide)
theorem opT_app {x : String} (hx : x ∈ opTexts) (hp : onHd (fun c => c == 37) (cps x) = false) {Y : List Nat} (hY : FOp Y) : opT (cps x ++ Y) = some (cps x) := by
  obtain ⟨a3, a2⟩ := O_all
  have tk : ∀ {n : Nat} {row : List Nat}, row.length = n → (row ++ Y).take n = row := fun {n row} h => by rw [← h, List.take_left]
  unfold opT opT2
  rcases op_tab2 x hx hp with ⟨h1, h2⟩ | ⟨h1, h2⟩ | ⟨h1, h2, h3⟩
  · have e := tk (a3 _ h1).2
    rw [e, if_pos h1, if_pos h2]
  · have e := tk h1
    have n3 : (cps x ++ Y).take 3 ∉ O3 := take_no (fun t ht => (a3 t ht).1) hY (by omega) (fun z => by have := (a3 _ z).2; omega)
    rw [if_neg n3, e, if_pos h2]
  · have n3 : (cps x ++ Y).take 3 ∉ O3 := take_no (fun t ht => (a3 t ht).1) hY (by omega) (fun z => by have := (a3 _ z).2; omega)
    have n2 : (cps x ++ Y).take 2 ∉ O2 := take_no a2 hY (by omega) h2
    rw [if_neg n3, if_neg n2]
    match q : cps x, h1, h3 with
    | [c], _, h3 => exact if_pos (h3 c (.head _))
theorem pct_app : ∀ (l : List Nat) (Y : List Nat) {n : Nat}, pct l = some n → pct (l ++ Y) = some n
  | [], _, _, h => by cases h
  | c :: r, Y, n, h => by
    unfold pct at h
    rw [List.cons_append]
    unfold pct
    by_cases c1 : c = 37
    · rw [if_pos c1] at h ⊢; exact h
    · rw [if_neg c1] at h ⊢
      by_cases c2 : c = 10
      · rw [if_pos c2] at h; cases h
      · rw [if_neg c2] at h ⊢
        cases e : pct r with
        | none => rw [e] at h; cases h
        | some k => rw [e] at h; rw [pct_app r Y e]; exact h
/-- how the text from here on starts -/
structure Sts (l : List Nat) (n r w q b p : Bool) : Prop where
  n : numStart l = n
  r : rawStart l = r
  w : wordStart l = w
  q : quoStart l = q
  b : onHd (fun c => c == 96) l = b
  p : onHd (fun c => c == 37) l = p
theorem numStart_app {row Y : List Nat} (hne : row ≠ []) (h : onHd isD Y = false ∨ onHd (fun c => c == 46) row = false) : numStart (row ++ Y) = numStart row := by
  unfold numStart
  rw [onHd_app (.inl hne), onHd_app (.inl hne)]
  cases row with
  | nil => exact absurd rfl hne
  | cons c r =>
    rcases h with h | h
    · rw [List.cons_append, List.drop_one, List.tail_cons, List.drop_one, List.tail_cons, onHd_app (.inr h)]
    · rw [h, Bool.false_and, Bool.false_and]
theorem rawStart_app {row Y : List Nat} (hne : row ≠ []) (h : onHd (fun c => c == 39 || c == 34) Y = false ∨ onHd (fun c => decide (c ∈ [114, 82])) row = false) : rawStart (row ++ Y) = rawStart row := by
  unfold rawStart
  rw [onHd_app (.inl hne)]
  cases row with
  | nil => exact absurd rfl hne
  | cons c r =>
    rcases h with h | h
    · rw [List.cons_append, List.drop_one, List.tail_cons, List.drop_one, List.tail_cons, onHd_app (.inr h)]
    · rw [h, Bool.false_and, Bool.false_and]
theorem sts_app {row Y : List Nat} {n r w q b p : Bool} (S : Sts row n r w q b p) (hne : row ≠ []) (h1 : onHd isD Y = false ∨ onHd (fun c => c == 46) row = false) (h2 : onHd (fun c => c == 39 || c == 34) Y = false ∨ onHd (fun c => decide (c ∈ [114, 82])) row = false) : Sts (row ++ Y) n r w q b p where
  n := (numStart_app hne h1).trans S.n
  r := (rawStart_app hne h2).trans S.r
  w := by unfold wordStart; rw [onHd_app (.inl hne), onHd_app (.inl hne)]; exact S.w
  q := by unfold quoStart; rw [onHd_app (.inl hne), onHd_app (.inl hne)]; exact S.q
  b := (onHd_app (.inl hne)).trans S.b
  p := (onHd_app (.inl hne)).trans S.p
theorem id_sts : ∀ x ∈ idT, Sts (cps x) false false true false false false := fun x hx => by
  have := (by decide +kernel : ∀ x ∈ idT, quoStart (cps x) = false ∧ onHd (fun c => c == 96) (cps x) = false ∧ onHd (fun c => c == 37) (cps x) = false) x hx
  obtain ⟨_, _, a, b, c, _⟩ := id_tab x hx
  exact ⟨a, b, c, this.1, this.2.1, this.2.2⟩
theorem key_sts : ∀ x ∈ keyT, Sts (cps x) false false true false false false := fun x hx => by
  have := (by decide +kernel : ∀ x ∈ keyT, quoStart (cps x) = false ∧ onHd (fun c => c == 96) (cps x) = false ∧ onHd (fun c => c == 37) (cps x) = false) x hx
  obtain ⟨_, _, a, b, c, _⟩ := key_tab x hx
  exact ⟨a, b, c, this.1, this.2.1, this.2.2⟩
theorem num_sts : ∀ q ∈ numT', Sts (cps q.1) true false (wordStart (cps q.1)) false false false := fun q hq => by
  have := (by decide +kernel : ∀ q ∈ numT', numStart (cps q.1) = true ∧ rawStart (cps q.1) = false ∧ quoStart (cps q.1) = false ∧ onHd (fun c => c == 96) (cps q.1) = false ∧ onHd (fun c => c == 37) (cps q.1) = false) q hq
  exact ⟨this.1, this.2.1, rfl, this.2.2.1, this.2.2.2.1, this.2.2.2.2⟩
theorem op_sts : ∀ x ∈ opTexts, Sts (cps x) false false false false false (onHd (fun c => c == 37) (cps x)) := fun x hx => by
  obtain ⟨_, a, _, b, _, c, e, f⟩ := op_tab x hx
  exact ⟨a, b, c, e, f, rfl⟩
theorem quo_sts {q : Nat} {r : List Nat} (h : q = 39 ∨ q = 34) : Sts (q :: r) false false false true false false := by
  rcases h with rfl | rfl <;> exact ⟨rfl, rfl, rfl, rfl, rfl, rfl⟩
theorem bq_sts {r : List Nat} : Sts (96 :: r) false false false false true false := ⟨rfl, rfl, rfl, rfl, rfl, rfl⟩
theorem raw_sts {c q : Nat} {r : List Nat} (h1 : c ∈ [114, 82]) (h2 : q ∈ [39, 34]) : Sts (c :: q :: r) false true true false false false := by
  simp only [List.mem_cons, List.not_mem_nil, or_false] at h1 h2
  rcases h1 with rfl | rfl <;> rcases h2 with rfl | rfl <;> exact ⟨rfl, rfl, rfl, rfl, rfl, rfl⟩
theorem head_tab : (∀ x ∈ idT, (cps x).head? ≠ some 96) ∧ (∀ x ∈ keyT, (cps x).head? ≠ some 96) ∧ (∀ q ∈ numT', (cps q.1).head? ≠ some 96) := by decide +kernel

noncomputable def lastOf (row : List Nat) (kind : String) : String := if kind = "op" then "op" else if (kind = "id" ∨ kind = "key" ∨ kind = "num") ∧ row.head? ≠ some 96 then "word" else kind
structure Fol (last : String) (Y : List Nat) : Prop where
  w : last = "word" → FWord Y
  o : last = "op" → FOp Y

theorem piece_done {q : Nat} {body v : List Nat} (h : Piece q body v) (Y : List Nat) : QW q (body ++ ([q] ++ Y)) (.ok v (body.length + 1)) := by
  have := h (q :: Y) (.ok [] 1) (.done Y)
  simpa [QO.sh] using this
theorem raw_nd {q n o : Nat} {v Y : List Nat} (ho : o ∈ [40, 91, 123]) : nd isDash (List.replicate n 45 ++ o :: (v ++ rawCl q n o) ++ Y) = n ∧ (List.replicate n 45 ++ o :: (v ++ rawCl q n o) ++ Y).drop n = o :: (v ++ rawCl q n o) ++ Y ∧ (List.replicate n 45 ++ o :: (v ++ rawCl q n o) ++ Y).take n = List.replicate n 45 := by
  have h1 : (List.replicate n 45).length = n := List.length_replicate ..
  have ho' : isDash o = false := (by decide : ∀ o ∈ [40, 91, 123], isDash o = false) o ho
  have h2 : ∀ n : Nat, ∀ Z : List Nat, nd isDash (List.replicate n 45 ++ o :: Z) = n := by
    intro n
    induction n with
    | zero => intro Z; simp [nd, ho']
    | succ n ih =>
      intro Z
      have := ih Z
      unfold nd at this ⊢
      rw [List.replicate_succ, List.cons_append, List.takeWhile_cons]
      simp only [show isDash 45 = true from rfl, if_true, List.length_cons, this]
  refine ⟨?_, ?_, ?_⟩
  · rw [List.append_assoc, List.cons_append]; exact h2 n _
  · rw [List.append_assoc, List.drop_append_of_le_length (by omega), List.drop_of_length_le (by omega)]; simp
  · rw [List.append_assoc, List.take_append_of_le_length (by omega), List.take_of_length_le (by omega)]
section
variable {W : Wd} {fi : Fi} {dp un : Nat} {loc : Loc} {H : AH} {X : Xs} {R : AV → AH → Prop}
theorem bool_not {P : Prop} {b c : Bool} (h : c = b) (h2 : c = !b) : P := by subst h; cases c <;> cases h2
theorem kind_num : (Str.ofString "id" == Str.ofString "num") = false ∧ (Str.ofString "key" == Str.ofString "num") = false ∧ (Str.ofString "str" == Str.ofString "num") = false ∧ (Str.ofString "op" == Str.ofString "num") = false ∧ (Str.ofString "num" == Str.ofString "num") = true ∧ (Str.ofString "eof" == Str.ofString "num") = false := by decide +kernel

theorem dw_app {p : Nat → Bool} : ∀ (l : List Nat) {Y : List Nat}, onHd p Y = false → (l ++ Y).dropWhile p = l.dropWhile p ++ Y
  | [], [], _ => rfl
  | [], c :: r, h => by simp [show p c = false from h]
  | x :: l, Y, h => by
    rw [List.cons_append, List.dropWhile_cons, List.dropWhile_cons, dw_app l h]
    split <;> rfl
theorem asc_app {l Y : List Nat} (h1 : asc l = true) (h2 : asc Y = true) : asc (l ++ Y) = true := by
  cases l with
  | nil => exact h2
  | cons c r => exact h1
theorem star_iff : ∀ x ∈ opTexts, (cps x = [42, 42]) = (x = "**") := by
  intro x hx
  have := (by decide +kernel : ∀ x ∈ opTexts, decide (cps x = [42, 42]) = decide (x = "**")) x hx
  simpa using this

theorem item_num {x d ks : Addr} {T : Str} {nl : Bool} {p : Nat} {Y : List Nat} {q : String × String × Int × Int} (hq : q ∈ numT') (hW : FWord Y) (lx1 : Lx H x d ks T p nl) (hl1 : T.length ≤ 1000000) (hd : dp ≤ 330) (hll : tl T p = cps q.1 ++ Y)
    (r : ∀ t td v H', Tok_ H' t td "num" (.ref v) p nl → NumAt H' v (numOf q) → Lx H' x d ks T ((p + (cps q.1).length : Nat) : Int) nl → Fram H H' d → R (.ref t) H') :
    Call_OK W dp un H (.ref 245) [.ref x, .int p] R X := by
  obtain ⟨_, hne, hok, hex⟩ := num_tab q hq
  have hS : hexS (tl T p) = hexS (cps q.1) := by
    rw [hll]
    unfold hexS
    rw [onHd_app (.inl hne)]
    cases e : cps q.1 with
    | nil => exact absurd e hne
    | cons c r => rw [List.cons_append, List.drop_one, List.tail_cons, List.drop_one, List.tail_cons, onHd_app (.inr hW.x)]
  refine c_numeral lx1 hl1 (by omega) (fun hx => ?_) (fun hx ds sc e he => ?_) (fun hx ds sc e N he hN hi t td v H' ht hn lx' f' => ?_) (fun hx he => ?_)
  · rw [hS] at hx
    rw [if_pos hx] at hok
    unfold hexOk at hok
    simp only [Bool.and_eq_true, Bool.not_eq_true', decide_eq_true_eq] at hok
    obtain ⟨⟨⟨⟨⟨⟨⟨o1, o2⟩, o3⟩, o4⟩, o5⟩, o6⟩, o7⟩, o8⟩ := hok
    have hd2 : tl T (p + 2) = (cps q.1).drop 2 ++ Y := by rw [tl_add, hll, dr_app Y o8]
    have e1 : ((cps q.1).drop 2 ++ Y).takeWhile isH = ((cps q.1).drop 2).takeWhile isH := tw_app _ hW.h
    have e2 : ((cps q.1).drop 2 ++ Y).dropWhile isH = ((cps q.1).drop 2).dropWhile isH ++ Y := dw_app _ hW.h
    have e3 : badX ((cps q.1).drop 2 ++ Y) = badX ((cps q.1).drop 2) := by unfold badX; rw [e1, e2, onHd_app (.inr hW.p)]
    refine c_hexadecimal (N := (hval (((cps q.1).drop 2).takeWhile isH)).toNat) lx1 hl1 (by omega) ?_ (fun _ => ?_) (fun _ _ t td v H' ht hn lx' f' => ?_) (fun he => ?_)
    · rw [hd2, e2]; exact asc_app o5 hW.a
    · rw [hd2, e1]; omega
    · rw [hd2, e2, onHd_app (.inr hW.l)] at hn lx'
      rw [NV.of_beq o6] at hn
      rw [nd_app _ hW.h] at lx'
      have e : p + 2 + nd isH ((cps q.1).drop 2) + (if onHd (fun c => c == 76) (((cps q.1).drop 2).dropWhile isH) = true then 1 else 0) = p + (cps q.1).length := by omega
      rw [e] at lx'
      exact r t td v H' ht hn lx' f'
    · rw [hd2, e3, e2, onHd_app (.inr hW.i), o1, o4] at he
      rcases he with h | h <;> cases h
  all_goals (rw [hS] at hx; rw [hx] at hok; rw [if_neg (by decide)] at hok; have hP : numP (tl T p) = numP (cps q.1) := (by rw [hll]; exact numP_app hW hex); rw [hP] at he; unfold decOk at hok)
  · rw [he] at hok
    simp only [Bool.and_eq_true, Bool.not_eq_true', decide_eq_true_eq] at hok
    obtain ⟨⟨⟨⟨⟨⟨⟨o1, o2⟩, o3⟩, o4⟩, o5⟩, o6⟩, o7⟩, o8⟩ := hok
    exact ⟨(dval ds).toNat, by omega, by omega, o3, o4⟩
  · rw [he] at hok
    simp only [Bool.and_eq_true, Bool.not_eq_true', decide_eq_true_eq] at hok
    obtain ⟨⟨⟨⟨⟨⟨⟨o1, o2⟩, o3⟩, o4⟩, o5⟩, o6⟩, o7⟩, o8⟩ := hok
    have hde : tl T (p + e) = (cps q.1).drop e ++ Y := by rw [tl_add, hll, dr_app Y o6]
    rw [hde, onHd_app (.inr hW.l)] at hn lx'
    rw [show N = (dval ds).toNat from by omega, NV.of_beq o7] at hn
    have e' : p + e + (if onHd (fun c => c == 76) ((cps q.1).drop e) = true then 1 else 0) = p + (cps q.1).length := by omega
    rw [e'] at lx'
    exact r t td v H' ht hn lx' f'
  · exfalso
    rcases he with he | ⟨ds, sc, e, he, hi⟩
    · rw [he] at hok; cases hok
    · rw [he] at hok
      simp only [Bool.and_eq_true, Bool.not_eq_true', decide_eq_true_eq] at hok
      obtain ⟨⟨⟨⟨⟨⟨⟨o1, o2⟩, o3⟩, o4⟩, o5⟩, o6⟩, o7⟩, o8⟩ := hok
      rw [tl_add, hll, dr_app Y o6, onHd_app (.inr hW.i), o5] at hi
      cases hi

theorem c_item {x d ks : Addr} {T : Str} {nl0 : Bool} {k : Nat} {row g Y : List Nat} {kind : String} {dv : PyData} (hg : GapP g) (hT : LTok row kind dv) (hF : Fol (lastOf row kind) Y) (lx : Lx H x d ks T k nl0) (hl : T.length ≤ 100000) (hd : dp ≤ 310) (htl : tl T k = g ++ (row ++ Y))
    (r : ∀ t td v H', Tok_ H' t td (Str.ofString kind) v ((k + g.length : Nat) : Int) (decide (10 ∈ g)) → TokV H' (Str.ofString kind) v dv → Lx H' x d ks T ((k + g.length + row.length : Nat) : Int) (decide (10 ∈ g)) → Fram H H' d → R (.ref t) H') :
    Call_OK W dp un H (.ref 203) [.ref x] R X := by
  have hl1 : T.length ≤ 1000000 := Nat.le_trans hl (by decide)
  obtain ⟨hne0, hsep⟩ := ltok_sep hT
  obtain ⟨k1, k2, k3, k4, k5, k6⟩ := kind_num
  have hne : row ++ Y ≠ [] := fun z => hne0 (List.append_eq_nil_iff.mp z).1
  have hsk : skipG false (row ++ Y) = (0, false) := skip_sep ((onHd_app (.inl hne0)).trans hsep)
  have e1 : skipG false (tl T k) = (g.length, decide (10 ∈ g)) := by rw [htl, hg.sk, hsk]; simp
  have hp : k + (skipG false (tl T k)).1 = k + g.length := by rw [e1]
  have hnl : (skipG false (tl T k)).2 = decide (10 ∈ g) := by rw [e1]
  have hll : tl T (k + g.length) = row ++ Y := by rw [tl_add, htl, List.drop_left]
  cases hT with
  | id y hy =>
    have hW : FWord Y := hF.w (by unfold lastOf; rw [if_neg (by decide), if_pos ⟨.inl rfl, head_tab.1 y hy⟩])
    have S := sts_app (id_sts y hy) hne0 (.inl hW.d) (.inl hW.q)
    refine c_next_token lx hl1 (by omega) hp hnl hll (fun e => absurd e hne) (fun _ h => bool_not S.n h) (fun _ h => bool_not S.r h) (fun _ _ _ H1 lx1 f1 => ?_) (fun h => bool_not S.w h) (fun h => bool_not S.b h) (fun h => bool_not S.p h) (fun _ _ _ h => bool_not S.w h)
    refine c_word lx1 hl1 (by omega) fun t td H' ht lx' f' => ?_
    obtain ⟨t1, t2, _⟩ := id_tab y hy
    rw [hll, tw_app _ hW.n, t1, t2, mk_cpsS] at ht
    rw [hll, nd_app _ hW.n, show nd isN (cps y) = (cps y).length from by unfold nd; rw [t1]] at lx'
    exact r t td _ H' ht (.inl ⟨k1, rfl, .str _⟩) lx' (f1.trans f')
  | key y hy =>
    have hW : FWord Y := hF.w (by unfold lastOf; rw [if_neg (by decide), if_pos ⟨.inr (.inl rfl), head_tab.2.1 y hy⟩])
    have S := sts_app (key_sts y hy) hne0 (.inl hW.d) (.inl hW.q)
    refine c_next_token lx hl1 (by omega) hp hnl hll (fun e => absurd e hne) (fun _ h => bool_not S.n h) (fun _ h => bool_not S.r h) (fun _ _ _ H1 lx1 f1 => ?_) (fun h => bool_not S.w h) (fun h => bool_not S.b h) (fun h => bool_not S.p h) (fun _ _ _ h => bool_not S.w h)
    refine c_word lx1 hl1 (by omega) fun t td H' ht lx' f' => ?_
    obtain ⟨t1, t2, _⟩ := key_tab y hy
    rw [hll, tw_app _ hW.n, t1, t2, mk_cpsS] at ht
    rw [hll, nd_app _ hW.n, show nd isN (cps y) = (cps y).length from by unfold nd; rw [t1]] at lx'
    exact r t td _ H' ht (.inl ⟨k2, rfl, .str _⟩) lx' (f1.trans f')
  | bq body v h1 h2 h3 h4 =>
    have S : Sts (96 :: (body ++ [96]) ++ Y) false false false false true false := bq_sts
    refine c_next_token lx hl1 (by omega) hp hnl hll (fun e => absurd e hne) (fun _ h => bool_not S.n h) (fun _ h => bool_not S.r h) (fun _ _ h => bool_not S.w h) (fun _ h => bool_not S.q h) (fun _ H1 lx1 f1 => ?_) (fun h => bool_not S.p h) (fun _ _ _ _ _ h => bool_not S.b h)
    refine c_quoted lx1 hl (by omega) (q := 96) (body := body ++ ([96] ++ Y)) (by rw [hll]; simp) (by decide) (piece_done h1 Y) (fun v' n' e t H' hx ht => ?_) (fun e => nomatch e) (fun off e => nomatch e)
    cases e
    refine ⟨t, v, _, rfl, ht, hx, fun z => absurd z h2, fun _ t td H2 hT' lx' f' => ?_⟩
    have e : k + g.length + 1 + (body.length + 1) = k + g.length + (96 :: (body ++ [96])).length := by simp; omega
    rw [e] at lx'
    exact r t td _ H2 hT' (.inl ⟨k1, rfl, .str _⟩) lx' f'
  | bqif =>
    have hrow : cps "`if`" = 96 :: ([105, 102] ++ [96]) := by decide +kernel
    have hv : Str.ofString "if" = mk [105, 102] := by decide +kernel
    have h1 : Piece 96 [105, 102] [105, 102] := piece_app (a := [105]) (c := [105]) (piece_chr (by decide) (by decide)) (piece_chr (by decide) (by decide))
    rw [hrow] at r hne hll
    rw [hv] at r
    have S : Sts (96 :: ([105, 102] ++ [96]) ++ Y) false false false false true false := bq_sts
    refine c_next_token lx hl1 (by omega) hp hnl hll (fun e => absurd e hne) (fun _ h => bool_not S.n h) (fun _ h => bool_not S.r h) (fun _ _ h => bool_not S.w h) (fun _ h => bool_not S.q h) (fun _ H1 lx1 f1 => ?_) (fun h => bool_not S.p h) (fun _ _ _ _ _ h => bool_not S.b h)
    refine c_quoted lx1 hl (by omega) (q := 96) (body := [105, 102] ++ ([96] ++ Y)) (by rw [hll]; simp) (by decide) (piece_done h1 Y) (fun v' n' e t H' hx ht => ?_) (fun e => nomatch e) (fun off e => nomatch e)
    cases e
    refine ⟨t, [105, 102], _, rfl, ht, hx, fun z => (nomatch z), fun _ t td H2 hT' lx' f' => ?_⟩
    exact r t td _ H2 hT' (.inl ⟨k1, rfl, .str _⟩) lx' f'
  | num q hq =>
    have hW : FWord Y := hF.w (by unfold lastOf; rw [if_neg (by decide), if_pos ⟨.inr (.inr rfl), head_tab.2.2 q hq⟩])
    have S := sts_app (num_sts q hq) hne0 (.inl hW.d) (.inl hW.q)
    refine c_next_token lx hl1 (by omega) hp hnl hll (fun e => absurd e hne) (fun _ _ H1 lx1 f1 => ?_) (fun h => bool_not S.n h) (fun h => bool_not S.n h) (fun _ h => bool_not S.q h) (fun h => bool_not S.b h) (fun h => bool_not S.p h) (fun _ h => bool_not S.n h)
    refine item_num hq hW lx1 hl1 (by omega) hll fun t td v H' ht hn lx' f' => ?_
    exact r t td _ H' ht (.inr ⟨k5, v, _, rfl, hn, (numDat_of q hq).symm⟩) lx' (f1.trans f')
  | str q body v h1 h2 h3 h4 =>
    have S : Sts (q :: (body ++ [q]) ++ Y) false false false true false false := quo_sts h1
    refine c_next_token lx hl1 (by omega) hp hnl hll (fun e => absurd e hne) (fun _ h => bool_not S.n h) (fun _ h => bool_not S.r h) (fun _ _ h => bool_not S.w h) (fun _ _ H1 lx1 f1 => ?_) (fun h => bool_not S.b h) (fun h => bool_not S.p h) (fun _ _ _ _ h => bool_not S.q h)
    refine c_quoted lx1 hl (by omega) (q := q) (body := body ++ ([q] ++ Y)) (by rw [hll]; simp) (by rcases h1 with rfl | rfl <;> decide) (piece_done h2 Y) (fun v' n' e t H' hx ht => ?_) (fun e => nomatch e) (fun off e => nomatch e)
    cases e
    refine ⟨t, mk v, _, rfl, ht, hx, fun t td H2 hT' lx' f' => ?_⟩
    have e : k + g.length + 1 + (body.length + 1) = k + g.length + (q :: (body ++ [q])).length := by simp; omega
    rw [e] at lx'
    exact r t td _ H2 hT' (.inl ⟨k3, rfl, .str _⟩) lx' f'
  | raw c q n o v h1 h2 h3 h4 h5 h6 =>
    have S : Sts (rawRow c q n o v ++ Y) false true true false false false := raw_sts h1 h2
    refine c_next_token lx hl1 (by omega) hp hnl hll (fun e => absurd e hne) (fun _ h => bool_not S.n h) (fun _ _ H1 lx1 f1 => ?_) (fun _ h => bool_not S.r h) (fun h => bool_not S.w h) (fun h => bool_not S.b h) (fun h => bool_not S.p h) (fun _ _ h => bool_not S.r h)
    obtain ⟨n1, n2, n3⟩ := raw_nd (q := q) (n := n) (v := v) (Y := Y) h4
    have hq1 : tl T (k + g.length + 1) = q :: (List.replicate n 45 ++ o :: (v ++ rawCl q n o) ++ Y) := by rw [tl_add, hll]; simp [rawRow]
    have hC : rawC q (List.replicate n 45 ++ o :: (v ++ rawCl q n o) ++ Y) = rawCl q n o := by unfold rawC; rw [n1, n2, n3]; rfl
    have hv : tl T (k + g.length + 3 + n) = v ++ (rawCl q n o ++ Y) := by
      rw [show k + g.length + 3 + n = k + g.length + 1 + 1 + (n + 1) by omega, tl_add, tl_add _ _ 1, hq1, List.drop_one, List.tail_cons, ← List.drop_drop, n2]
      simp
    have hfirst : ∀ i < v.length, (rawCl q n o).isPrefixOf ((v ++ rawCl q n o).drop i) = false := fun i hi => by
      have := List.all_eq_true.mp h6 i (List.mem_range.mpr hi)
      simpa using this
    have hfind := find_first hv (by simp [rawCl]) hfirst
    refine c_raw_string lx1 hl1 (by omega) hq1 (.inr ⟨k + g.length + 3 + n + v.length, by rw [hC, n1]; exact hfind, by rw [n1]; omega⟩) (fun j _ hj t td H' ht lx' f' => ?_) (fun h => ?_) (fun _ h => ?_)
    · rw [hC, n1, hfind] at hj
      have hj' : j = k + g.length + 3 + n + v.length := by omega
      subst hj'
      rw [n1, hv, Nat.add_sub_cancel_left, List.take_left] at ht
      have e : k + g.length + 3 + n + v.length + (n + 2) = k + g.length + (rawRow c q n o v).length := by simp [rawRow, rawCl]; omega
      rw [n1, e] at lx'
      exact r t td _ H' ht (.inl ⟨k3, rfl, .str _⟩) lx' (f1.trans f')
    · rw [n1, n2] at h
      have : isOpen o = true := (by decide : ∀ o ∈ [40, 91, 123], isOpen o = true) o h4
      rw [show onHd isOpen (o :: (v ++ rawCl q n o) ++ Y) = isOpen o from rfl, this] at h
      cases h
    · rw [hC, n1, hfind] at h
      omega
  | op y hy =>
    obtain ⟨_, _, hdot, _, hrr, _⟩ := op_tab y hy
    have S := sts_app (op_sts y hy) hne0 (.inr hdot) (Y := Y) (.inr hrr)
    by_cases hpc : onHd (fun c => c == 37) (cps y) = true
    · rw [hpc] at S
      obtain ⟨n, hn1, hn2, hn3⟩ := pct_tab y hy hpc
      refine c_next_token lx hl1 (by omega) hp hnl hll (fun e => absurd e hne) (fun _ h => bool_not S.n h) (fun _ h => bool_not S.r h) (fun _ _ h => bool_not S.w h) (fun _ h => bool_not S.q h) (fun h => bool_not S.b h) (fun _ H1 lx1 f1 => ?_) (fun _ _ _ _ _ _ h => bool_not S.p h)
      have hpt : pct (tl T (k + g.length + 1)) = some n := by
        rw [tl_add, hll, dr_app Y (by omega)]; exact pct_app _ _ hn1
      refine c_percent lx1 hl1 (by omega) (fun n' hn' t td H' ht lx' f' => ?_) (fun h => by rw [hpt] at h; cases h)
      rw [hpt] at hn'; cases hn'
      rw [hn2, hll, List.take_left, mk_cpsS] at ht
      rw [hn2] at lx'
      rw [if_neg hn3] at r
      exact r t td _ H' ht (.inl ⟨k4, rfl, .str _⟩) lx' (f1.trans f')
    · have hpc' : onHd (fun c => c == 37) (cps y) = false := by simpa using hpc
      rw [hpc'] at S
      have ho := opT_app hy hpc' (hF.o (by unfold lastOf; rw [if_pos rfl]))
      refine c_next_token lx hl1 (by omega) hp hnl hll (fun e => absurd e hne) (fun _ h => bool_not S.n h) (fun _ h => bool_not S.r h) (fun _ _ h => bool_not S.w h) (fun _ h => bool_not S.q h) (fun h => bool_not S.b h) (fun h => bool_not S.p h) (fun _ _ _ _ _ _ _ H1 lx1 f1 => ?_)
      refine c_operator lx1 hl1 (by omega) (by rw [hll]; exact hne) (fun t ht ta td H' htk lx' f' => ?_) (fun h => by rw [hll, ho] at h; cases h)
      rw [hll, ho] at ht; cases ht
      have e : (if cps y = [42, 42] then Str.ofString "^" else mk (cps y)) = Str.ofString (if y = "**" then "^" else y) := by
        by_cases hs : y = "**"
        · rw [if_pos hs, if_pos ((star_iff y hy).mpr hs)]
        · rw [if_neg hs, if_neg (fun z => hs ((star_iff y hy).mp z)), mk_cpsS]
      rw [e] at htk
      exact r ta td _ H' htk (.inl ⟨k4, rfl, .str _⟩) lx' (f1.trans f')
end

section
variable {W : Wd} {fi : Fi} {dp un : Nat} {loc : Loc} {H : AH} {X : Xs} {R : AV → AH → Prop}
theorem c_end {x d ks : Addr} {T : Str} {nl0 : Bool} {k : Nat} {g : List Nat} (hg : GapP g) (lx : Lx H x d ks T k nl0) (hl : T.length ≤ 100000) (hd : dp ≤ 310) (htl : tl T k = g)
    (r : ∀ t td H', Tok_ H' t td "eof" (.str "") ((k + g.length : Nat) : Int) (decide (10 ∈ g)) → Lx H' x d ks T ((k + g.length : Nat) : Int) (decide (10 ∈ g)) → Fram H H' d → R (.ref t) H') :
    Call_OK W dp un H (.ref 203) [.ref x] R X := by
  have hl1 : T.length ≤ 1000000 := Nat.le_trans hl (by decide)
  have e1 : skipG false (tl T k) = (g.length, decide (10 ∈ g)) := by
    have := hg.sk []
    rw [List.append_nil] at this
    rw [htl, this]; simp [skipG]
  have hll : tl T (k + g.length) = [] := by rw [tl_add, htl]; simp
  exact c_next_token lx hl1 (by omega) (by rw [e1]) (by rw [e1]) hll (fun _ t td H' ht lx' f' => r t td H' ht lx' f') (fun h => absurd rfl h) (fun _ h => (nomatch h)) (fun _ _ h => (nomatch h)) (fun _ h => (nomatch h)) (fun h => (nomatch h)) (fun h => (nomatch h)) (fun h => absurd rfl h)

theorem skip32 {T : Str} {k : Nat} {row : List Nat} (htl : tl T k = 32 :: row) (hs : onHd (fun c => decide (c ∈ sepT)) row = false) : skipG false (tl T k) = (1, false) ∧ tl T (k + 1) = row := by
  refine ⟨?_, tl_cons htl⟩
  rw [htl]
  have := skip_sep hs
  simp [skipG, this]
theorem fault_quo {x d ks : Addr} {T : Str} {nl0 : Bool} {k q : Nat} {body : List Nat} {O : QO} (lx : Lx H x d ks T k nl0) (hl : T.length ≤ 100000) (hd : dp ≤ 310) (hq : q = 39 ∨ q = 34) (htl : tl T k = 32 :: q :: body) (hO : QW q body O)
    (no : ∀ v n, O ≠ .ok v n) (er : O = .unf → X "unfinished_string" ((k + 1 : Nat) : Int)) (er2 : ∀ off, O = .bad off → X "bad_escape" ((k + 1 + 1 + off : Nat) : Int)) : Call_OK W dp un H (.ref 203) [.ref x] R X := by
  have hl1 : T.length ≤ 1000000 := Nat.le_trans hl (by decide)
  obtain ⟨e1, hll⟩ := skip32 htl (show decide (q ∈ sepT) = false by rcases hq with rfl | rfl <;> decide)
  have S : Sts (q :: body) false false false true false false := quo_sts hq
  refine c_next_token lx hl1 (by omega) (p := k + 1) (nl := false) (by rw [e1]) (by rw [e1]) hll (fun e => (nomatch e)) (fun _ h => bool_not S.n h) (fun _ h => bool_not S.r h) (fun _ _ h => bool_not S.w h) (fun _ _ H1 lx1 f1 => ?_) (fun h => bool_not S.b h) (fun h => bool_not S.p h) (fun _ _ _ _ h => bool_not S.q h)
  exact c_quoted lx1 hl (by omega) hll (by rcases hq with rfl | rfl <;> decide) hO (fun v' n' e => absurd e (no v' n')) er er2
theorem fault_bq {x d ks : Addr} {T : Str} {nl0 : Bool} {k : Nat} {body : List Nat} {O : QO} (lx : Lx H x d ks T k nl0) (hl : T.length ≤ 100000) (hd : dp ≤ 310) (htl : tl T k = 32 :: 96 :: body) (hO : QW 96 body O)
    (no : ∀ v n, O = .ok v n → v = [] ∧ X "bad_character" ((k + 1 : Nat) : Int)) (er : O = .unf → X "unfinished_string" ((k + 1 : Nat) : Int)) (er2 : ∀ off, O ≠ .bad off) : Call_OK W dp un H (.ref 203) [.ref x] R X := by
  have hl1 : T.length ≤ 1000000 := Nat.le_trans hl (by decide)
  obtain ⟨e1, hll⟩ := skip32 htl (show decide (96 ∈ sepT) = false by decide)
  have S : Sts (96 :: body) false false false false true false := bq_sts
  refine c_next_token lx hl1 (by omega) (p := k + 1) (nl := false) (by rw [e1]) (by rw [e1]) hll (fun e => (nomatch e)) (fun _ h => bool_not S.n h) (fun _ h => bool_not S.r h) (fun _ _ h => bool_not S.w h) (fun _ h => bool_not S.q h) (fun _ H1 lx1 f1 => ?_) (fun h => bool_not S.p h) (fun _ _ _ _ _ h => bool_not S.b h)
  refine c_quoted lx1 hl (by omega) hll (by decide) hO (fun v' n' e t H' hx ht => ?_) er (fun off e => absurd e (er2 off))
  obtain ⟨rfl, hX⟩ := no v' n' e
  exact ⟨t, [], _, rfl, ht, hx, fun _ => hX, fun z => absurd rfl z⟩
theorem fault_pct {x d ks : Addr} {T : Str} {nl0 : Bool} {k : Nat} {body : List Nat} (lx : Lx H x d ks T k nl0) (hl : T.length ≤ 100000) (hd : dp ≤ 310) (htl : tl T k = 32 :: 37 :: body) (hp : pct body = none) (er : X "bad_character" ((k + 1 : Nat) : Int)) : Call_OK W dp un H (.ref 203) [.ref x] R X := by
  have hl1 : T.length ≤ 1000000 := Nat.le_trans hl (by decide)
  obtain ⟨e1, hll⟩ := skip32 htl (show decide (37 ∈ sepT) = false by decide)
  have S : Sts (37 :: body) false false false false false true := ⟨rfl, rfl, rfl, rfl, rfl, rfl⟩
  refine c_next_token lx hl1 (by omega) (p := k + 1) (nl := false) (by rw [e1]) (by rw [e1]) hll (fun e => (nomatch e)) (fun _ h => bool_not S.n h) (fun _ h => bool_not S.r h) (fun _ _ h => bool_not S.w h) (fun _ h => bool_not S.q h) (fun h => bool_not S.b h) (fun _ H1 lx1 f1 => ?_) (fun _ _ _ _ _ _ h => bool_not S.p h)
  have h2 : tl T (k + 1 + 1) = body := tl_cons hll
  exact c_percent lx1 hl1 (by omega) (fun n' hn' => by rw [h2, hp] at hn'; cases hn') (fun _ => er)
theorem fault_raw {x d ks : Addr} {T : Str} {nl0 : Bool} {k : Nat} {l : List Nat} (lx : Lx H x d ks T k nl0) (hl : T.length ≤ 100000) (hd : dp ≤ 310) (htl : tl T k = 32 :: 114 :: 34 :: l)
    (h1 : onHd isOpen (l.drop (nd isDash l)) = false → X "bad_character" ((k + 1 : Nat) : Int)) (h2 : onHd isOpen (l.drop (nd isDash l)) = true → (∀ i, ((l.drop (nd isDash l + 1)).drop i).take (rawC 34 l).length ≠ rawC 34 l) ∧ X "unfinished_string" ((k + 1 : Nat) : Int)) : Call_OK W dp un H (.ref 203) [.ref x] R X := by
  have hl1 : T.length ≤ 1000000 := Nat.le_trans hl (by decide)
  obtain ⟨e1, hll⟩ := skip32 htl (show decide (114 ∈ sepT) = false by decide)
  have S : Sts (114 :: 34 :: l) false true true false false false := raw_sts (by decide) (by decide)
  have hq : tl T (k + 1 + 1) = 34 :: l := tl_cons hll
  have h3 : tl T (k + 1 + 3 + nd isDash l) = l.drop (nd isDash l + 1) := by
    rw [show k + 1 + 3 + nd isDash l = k + 1 + 1 + 1 + (nd isDash l + 1) by omega, tl_add, tl_cons hq]
  refine c_next_token lx hl1 (by omega) (p := k + 1) (nl := false) (by rw [e1]) (by rw [e1]) hll (fun e => (nomatch e)) (fun _ h => bool_not S.n h) (fun _ _ H1 lx1 f1 => ?_) (fun _ h => bool_not S.r h) (fun h => bool_not S.w h) (fun h => bool_not S.b h) (fun h => bool_not S.p h) (fun _ _ h => bool_not S.r h)
  have hno : onHd isOpen (l.drop (nd isDash l)) = true → Txt.find3 T (mk (rawC 34 l)) ((k + 1 + 3 + nd isDash l : Nat) : Int) < 0 := fun h => find_no (by unfold rawC; simp) (by rw [h3]; exact (h2 h).1)
  cases hO : onHd isOpen (l.drop (nd isDash l)) with
  | false =>
    have hf : Txt.find3 T (mk (rawC 34 l)) ((k + 1 + 3 + nd isDash l : Nat) : Int) < 0 ∨ ∃ j : Nat, Txt.find3 T (mk (rawC 34 l)) ((k + 1 + 3 + nd isDash l : Nat) : Int) = j ∧ k + 1 + 3 + nd isDash l ≤ j := by
      unfold Txt.find3
      rw [from_nat]
      rcases StrLaws.occ_head_from T (mk (rawC 34 l)) (k + 1 + 3 + nd isDash l) 1 (Nat.le_refl 1) with ⟨h0, _⟩ | ⟨j, r, h0, hlo, _⟩
      · rw [h0]; exact .inl (by decide)
      · rw [h0]; exact .inr ⟨j, rfl, hlo⟩
    exact c_raw_string lx1 hl1 (by omega) hq hf (fun j h => by rw [hO] at h; cases h) (fun _ => h1 hO) (fun h => by rw [hO] at h; cases h)
  | true => exact c_raw_string lx1 hl1 (by omega) hq (.inl (hno hO)) (fun j _ hj => by have := hno hO; omega) (fun h => by rw [hO] at h; cases h) (fun _ _ => (h2 hO).2)
theorem fault_op {x d ks : Addr} {T : Str} {nl0 : Bool} {k : Nat} {row : List Nat} (lx : Lx H x d ks T k nl0) (hl : T.length ≤ 100000) (hd : dp ≤ 310) (htl : tl T k = 32 :: row) (hne : row ≠ []) (hs : onHd (fun c => decide (c ∈ sepT)) row = false) (S : Sts row false false false false false false) (ho : opT row = none) (er : X "bad_character" ((k + 1 : Nat) : Int)) : Call_OK W dp un H (.ref 203) [.ref x] R X := by
  have hl1 : T.length ≤ 1000000 := Nat.le_trans hl (by decide)
  obtain ⟨e1, hll⟩ := skip32 htl hs
  refine c_next_token lx hl1 (by omega) (p := k + 1) (nl := false) (by rw [e1]) (by rw [e1]) hll (fun e => absurd e hne) (fun _ h => bool_not S.n h) (fun _ h => bool_not S.r h) (fun _ _ h => bool_not S.w h) (fun _ h => bool_not S.q h) (fun h => bool_not S.b h) (fun h => bool_not S.p h) (fun _ _ _ _ _ _ _ H1 lx1 f1 => ?_)
  exact c_operator lx1 hl1 (by omega) (by rw [hll]; exact hne) (fun t ht => by rw [hll, ho] at ht; cases ht) (fun _ => er)
theorem fault_num {x d ks : Addr} {T : Str} {nl0 : Bool} {k : Nat} {row : List Nat} (lx : Lx H x d ks T k nl0) (hl : T.length ≤ 100000) (hd : dp ≤ 310) (htl : tl T k = 32 :: row) (hne : row ≠ []) (hs : onHd (fun c => decide (c ∈ sepT)) row = false) {w : Bool} (S : Sts row true false w false false false)
    (hx : hexS row = true → badX (row.drop 2) = true ∧ asc ((row.drop 2).dropWhile isH) = true) (hn : hexS row = false → numP row = none ∨ ∃ ds sc e, numP row = some (ds, sc, e) ∧ 0 ≤ dval ds ∧ dval ds < 2 ^ 40 ∧ -6 ≤ sc ∧ sc ≤ 6 ∧ onHd (fun c => c == 105) (row.drop e) = true) (er : X "bad_number" ((k + 1 : Nat) : Int)) : Call_OK W dp un H (.ref 203) [.ref x] R X := by
  have hl1 : T.length ≤ 1000000 := Nat.le_trans hl (by decide)
  obtain ⟨e1, hll⟩ := skip32 htl hs
  refine c_next_token lx hl1 (by omega) (p := k + 1) (nl := false) (by rw [e1]) (by rw [e1]) hll (fun e => absurd e hne) (fun _ _ H1 lx1 f1 => ?_) (fun h => bool_not S.n h) (fun h => bool_not S.n h) (fun _ h => bool_not S.q h) (fun h => bool_not S.b h) (fun h => bool_not S.p h) (fun _ h => bool_not S.n h)
  have hd2 : ∀ n, tl T (k + 1 + n) = row.drop n := fun n => by rw [tl_add, hll]
  refine c_numeral lx1 hl1 (by omega) (fun h => ?_) (fun h ds sc e he => ?_) (fun h ds sc e N he hN hi => ?_) (fun _ _ => er)
  · rw [hll] at h
    obtain ⟨b1, b2⟩ := hx h
    refine c_hexadecimal (N := 0) lx1 hl1 (by omega) (by rw [hd2]; exact b2) (fun q => by rw [hd2, b1] at q; cases q) (fun q => by rw [hd2, b1] at q; cases q) (fun _ => er)
  · rw [hll] at h he
    rcases hn h with q | ⟨ds', sc', e', q, q1, q2, q3, q4, q5⟩
    · rw [q] at he; cases he
    · rw [q] at he; cases he; exact ⟨(dval ds).toNat, by omega, by omega, q3, q4⟩
  · rw [hll] at h he
    rcases hn h with q | ⟨ds', sc', e', q, q1, q2, q3, q4, q5⟩
    · rw [q] at he; cases he
    · rw [q] at he; cases he; rw [hd2, q5] at hi; cases hi
end

section
variable {W : Wd} {fi : Fi} {dp un : Nat} {loc : Loc} {H : AH} {X : Xs} {R : AV → AH → Prop}
theorem raw_no : ∀ i, (([45, 40, 120, 41, 34] : List Nat).drop (nd isDash [45, 40, 120, 41, 34] + 1) |>.drop i).take (rawC 34 [45, 40, 120, 41, 34]).length ≠ rawC 34 [45, 40, 120, 41, 34] := by
  intro i
  by_cases h : i < 3
  · exact (by decide : ∀ i < 3, (([45, 40, 120, 41, 34] : List Nat).drop (nd isDash [45, 40, 120, 41, 34] + 1) |>.drop i).take (rawC 34 [45, 40, 120, 41, 34]).length ≠ rawC 34 [45, 40, 120, 41, 34]) i h
  · rw [List.drop_of_length_le (show _ ≤ i from by show 3 ≤ i; omega)]
    decide
theorem c_fault {x d ks : Addr} {T : Str} {nl0 : Bool} {k : Nat} {q : String × String × Int} (hq : q ∈ faultT.tail) (lx : Lx H x d ks T k nl0) (hl : T.length ≤ 100000) (hd : dp ≤ 310) (htl : tl T k = 32 :: cps q.1)
    (er : ∀ a : Int, a = ((k + 1 : Nat) : Int) + q.2.2 → X (Str.ofString q.2.1) a) : Call_OK W dp un H (.ref 203) [.ref x] R X := by
  simp only [faultT, List.tail_cons, List.mem_cons, List.not_mem_nil, or_false] at hq
  rcases hq with rfl | rfl | rfl | rfl | rfl | rfl | rfl | rfl | rfl | rfl | rfl | rfl | rfl | rfl | rfl | rfl | rfl | rfl | rfl | rfl | rfl | rfl | rfl | rfl | rfl
  all_goals dsimp only at htl er
  · rw [show cps "\"ab" = [34, 97, 98] from by decide +kernel] at htl
    exact fault_quo lx hl hd (.inr rfl) htl (O := .unf) (.chr 97 [98] .unf (by decide) (by decide) (.chr 98 [] .unf (by decide) (by decide) .nil)) (fun v n e => (nomatch e)) (fun _ => er _ (by simp)) (fun off e => (nomatch e))
  · rw [show cps "'a\\" = [39, 97, 92] from by decide +kernel] at htl
    exact fault_quo lx hl hd (.inl rfl) htl (O := .unf) (.chr 97 [92] .unf (by decide) (by decide) .bs) (fun v n e => (nomatch e)) (fun _ => er _ (by simp)) (fun off e => (nomatch e))
  · rw [show cps "\"\\q\"" = [34, 92, 113, 34] from by decide +kernel] at htl
    exact fault_quo lx hl hd (.inr rfl) htl (O := .bad 0) (.ebad 113 [34] (by decide) (by decide +kernel) (by decide +kernel)) (fun v n e => (nomatch e)) (fun e => (nomatch e)) (fun off e => by cases e; exact er _ (by omega))
  · rw [show cps "\"a\\0\"" = [34, 97, 92, 48, 34] from by decide +kernel] at htl
    exact fault_quo lx hl hd (.inr rfl) htl (O := .bad 1) (.chr 97 [92, 48, 34] (.bad 0) (by decide) (by decide) (.ebad 48 [34] (by decide) (by decide +kernel) (by decide +kernel))) (fun v n e => (nomatch e)) (fun e => (nomatch e)) (fun off e => by cases e; exact er _ (by omega))
  · rw [show cps "\"\\xg\"" = [34, 92, 120, 103, 34] from by decide +kernel] at htl
    exact fault_quo lx hl hd (.inr rfl) htl (O := .bad 0) (.ebad 120 [103, 34] (by decide) (by decide +kernel) (by decide +kernel)) (fun v n e => (nomatch e)) (fun e => (nomatch e)) (fun off e => by cases e; exact er _ (by omega))
  · rw [show cps "\"\\u{41\"" = [34, 92, 117, 123, 52, 49, 34] from by decide +kernel] at htl
    exact fault_quo lx hl hd (.inr rfl) htl (O := .bad 0) (.ebad 117 [123, 52, 49, 34] (by decide) (by decide +kernel) (by decide +kernel)) (fun v n e => (nomatch e)) (fun e => (nomatch e)) (fun off e => by cases e; exact er _ (by omega))
  · rw [show cps "\"\\ud800\"" = [34, 92, 117, 100, 56, 48, 48, 34] from by decide +kernel] at htl
    exact fault_quo lx hl hd (.inr rfl) htl (O := .bad 0) (.ebad 117 [100, 56, 48, 48, 34] (by decide) (by decide +kernel) (by decide +kernel)) (fun v n e => (nomatch e)) (fun e => (nomatch e)) (fun off e => by cases e; exact er _ (by omega))
  · rw [show cps "\"\\U110000\"" = [34, 92, 85, 49, 49, 48, 48, 48, 48, 34] from by decide +kernel] at htl
    exact fault_quo lx hl hd (.inr rfl) htl (O := .bad 0) (.ebad 85 [49, 49, 48, 48, 48, 48, 34] (by decide) (by decide +kernel) (by decide +kernel)) (fun v n e => (nomatch e)) (fun e => (nomatch e)) (fun off e => by cases e; exact er _ (by omega))
  · rw [show cps "\"\\ \"" = [34, 92, 32, 34] from by decide +kernel] at htl
    exact fault_quo lx hl hd (.inr rfl) htl (O := .bad 0) (.ebad 32 [34] (by decide) (by decide +kernel) (by decide +kernel)) (fun v n e => (nomatch e)) (fun e => (nomatch e)) (fun off e => by cases e; exact er _ (by omega))
  · rw [show cps "%in" = [37, 105, 110] from by decide +kernel] at htl
    exact fault_pct lx hl hd htl (by decide) (er _ (by simp))
  · rw [show cps "%a\n%" = [37, 97, 10, 37] from by decide +kernel] at htl
    exact fault_pct lx hl hd htl (by decide) (er _ (by simp))
  · rw [show cps "`a" = [96, 97] from by decide +kernel] at htl
    exact fault_bq lx hl hd htl (O := .unf) (.chr 97 [] .unf (by decide) (by decide) .nil) (fun v n e => (nomatch e)) (fun _ => er _ (by simp)) (fun off e => (nomatch e))
  · rw [show cps "``" = [96, 96] from by decide +kernel] at htl
    exact fault_bq lx hl hd htl (O := .ok [] 1) (.done []) (fun v n e => by cases e; exact ⟨rfl, er _ (by simp)⟩) (fun e => (nomatch e)) (fun off e => (nomatch e))
  · rw [show cps "r\"x\"" = [114, 34, 120, 34] from by decide +kernel] at htl
    exact fault_raw lx hl hd htl (fun _ => er _ (by simp)) (fun h => absurd h (by decide))
  · rw [show cps "r\"-(x)\"" = [114, 34, 45, 40, 120, 41, 34] from by decide +kernel] at htl
    exact fault_raw lx hl hd htl (fun h => absurd h (by decide)) (fun _ => ⟨raw_no, er _ (by simp)⟩)
  · rw [show cps "0x" = [48, 120] from by decide +kernel] at htl
    exact fault_num lx hl hd htl (by decide) (by decide) (w := false) ⟨rfl, rfl, rfl, rfl, rfl, rfl⟩ (fun _ => by decide +kernel) (fun h => absurd h (by decide)) (er _ (by simp))
  · rw [show cps "0x1p3" = [48, 120, 49, 112, 51] from by decide +kernel] at htl
    exact fault_num lx hl hd htl (by decide) (by decide) (w := false) ⟨rfl, rfl, rfl, rfl, rfl, rfl⟩ (fun _ => by decide +kernel) (fun h => absurd h (by decide)) (er _ (by simp))
  · rw [show cps "0x1.8" = [48, 120, 49, 46, 56] from by decide +kernel] at htl
    exact fault_num lx hl hd htl (by decide) (by decide) (w := false) ⟨rfl, rfl, rfl, rfl, rfl, rfl⟩ (fun _ => by decide +kernel) (fun h => absurd h (by decide)) (er _ (by simp))
  · rw [show cps "1e5000" = [49, 101, 53, 48, 48, 48] from by decide +kernel] at htl
    exact fault_num lx hl hd htl (by decide) (by decide) (w := false) ⟨rfl, rfl, rfl, rfl, rfl, rfl⟩ (fun h => absurd h (by decide)) (fun _ => .inl (by decide +kernel)) (er _ (by simp))
  · rw [show cps "1e" = [49, 101] from by decide +kernel] at htl
    exact fault_num lx hl hd htl (by decide) (by decide) (w := false) ⟨rfl, rfl, rfl, rfl, rfl, rfl⟩ (fun h => absurd h (by decide)) (fun _ => .inl (by decide +kernel)) (er _ (by simp))
  · rw [show cps "1e-" = [49, 101, 45] from by decide +kernel] at htl
    exact fault_num lx hl hd htl (by decide) (by decide) (w := false) ⟨rfl, rfl, rfl, rfl, rfl, rfl⟩ (fun h => absurd h (by decide)) (fun _ => .inl (by decide +kernel)) (er _ (by simp))
  · rw [show cps "2i" = [50, 105] from by decide +kernel] at htl
    exact fault_num lx hl hd htl (by decide) (by decide) (w := false) ⟨rfl, rfl, rfl, rfl, rfl, rfl⟩ (fun h => absurd h (by decide)) (fun _ => .inr ⟨[50], 0, 1, by decide +kernel⟩) (er _ (by simp))
  · rw [show cps "_a" = [95, 97] from by decide +kernel] at htl
    exact fault_op lx hl hd htl (by decide) (by decide) ⟨rfl, rfl, rfl, rfl, rfl, rfl⟩ (by decide) (er _ (by simp))
  · rw [show cps "\u00e9" = [233] from by decide +kernel] at htl
    exact fault_op lx hl hd htl (by decide) (by decide) ⟨rfl, rfl, rfl, rfl, rfl, rfl⟩ (by decide) (er _ (by simp))
  · rw [show cps "\x0b" = [11] from by decide +kernel] at htl
    exact fault_op lx hl hd htl (by decide) (by decide) ⟨rfl, rfl, rfl, rfl, rfl, rfl⟩ (by decide) (er _ (by simp))
end

section
variable {w : World} {A : Around} {E : Value → Shared → Prop} {s : Shared}
theorem gattr51 (w : World) : findIn (hd.heap_39 w.params) (.ref 51) "__getattr__" = some none := by k_is
theorem noget51 (w : World) : noGet (hd.heap_39 w.params) none = true := by k_is
theorem bexc51 (w : World) : mroIn (hd.heap_39 w.params) 51 (.type "BaseException") = some true := by k_is

theorem get_exc {e : Addr} {oe od : Obj} {name : Str} {v : Value} {expr : Bool} {Q : Value → Shared → Prop} (Y : (hd.heap_39 w.params).In s.heap) (I : InstAt s.heap e oe 51 (some od)) (hn : ExcName name) (hl : lookIn name od = some (some v)) (hv : handedIn v = true) (h : Q v { s with toks := s.toks + 1 }) :
    wpAny (model PG w) A (getAttr (.ref e) name expr) Q E s := by
  have hf : findObj (hd.heap_39 w.params) 51 (some od) name = some (.value v) := findObj_own (hd51 w) (hn.f w) (noget51 w) hl
  obtain ⟨hh, g, d, t, os⟩ := s
  have L0 := I.type (M := model PG w)
  have L1 := looks_findIn (M := model PG w) Y (ga51 w)
  have L2 := looks_findIn (M := model PG w) Y (gattr51 w)
  have L3 := looks_find (M := model PG w) Y I hf
  have FB := PySem.F.attrBase_Exception
  have sub : Looks (model PG w) hh (isInstance (.ref e) (.type "BaseException")) true := L0.andThen (looks_mroIn Y (bexc51 w))
  unfold getAttr getAttrBy
  refine wpAny_bind (wpAny_mkText (wpAny_holding (wpAny_bind (L0.at (wpAny_bind (L1.at ?_))))))
  show wpAny _ _ (getAttrByItsOwn _ _ _ _ _ _) _ _ _
  unfold getAttrByItsOwn
  refine wpAny_bind (L2.at ?_)
  refine wpAny_bind (wpAny_attempt (wpAny_holding ?_))
  have e1 : callGetattribute (.ref e) (.str name t) (.builtin "BaseException.__getattribute__") expr = boundAndCalled (.builtin "BaseException.__getattribute__") (.ref e) (.str name t) := by
    unfold callGetattribute; cases expr <;> rfl
  rw [e1]
  unfold boundAndCalled
  rw [FB.ga.bind (.ref e)]
  refine wpAny_bind (wpAny_pure ?_)
  refine wpAny_call (codeAny_call_builtin FB.ga.plain PySem.F.entry_bexc_ga (@check_slot (model PG w) _ _ _ "BaseException.__getattribute__" "BaseException" "__getattribute__" (.ref e) [.str name t] [] _ (by decide +kernel) (by decide +kernel) sub (PySem.F.args_bexc_ga _ _) ?_))
  refine wpAny_bind (wpAny_pure (wpAny_bind (wpAny_pure (wpAny_bind (L0.at (wpAny_bind (L3.at ?_)))))))
  refine wpAny_pure ?_
  show wpAny _ _ (handedOut v) _ _ _
  rw [handedOut_of hv]; exact wpAny_pure h
end

section
variable {W : Wd} {fi : Fi} {dp un : Nat} {loc : Loc} {H : AH} {X : Xs}
theorem fr_kind_at {P : Params} {k : Str} {a : Int} {es : List DictEntry} {n : Nat} (h : FR P [("kind", .str k), ("at", .int a)] es) : (∃ t, getL "kind" es = some (some (.str k t))) ∧ ∃ t, getL "at" es = some (some (.int a t)) := by
  obtain ⟨v1, h1, t1, e1⟩ := h.get (x := "kind") (av := .str k) rfl
  obtain ⟨v2, h2, t2, e2⟩ := h.get (x := "at") (av := .int a) (by rw [List.lookup_cons, show (("at" : Str) == ("kind" : Str)) = false from by decide +kernel]; rfl)
  exact ⟨⟨t1, e1 ▸ h1⟩, ⟨t2, e2 ▸ h2⟩⟩

theorem shaped_pair {k : Str} {a : Int} (h : PyData.strOk k = true) : SeqAt.shaped (.tuple [.str k, .int a]) = true := by
  have e1 : PyData.canLay0 (.tuple [.str k, .int a]) = true := by simp [PyData.canLay0, PyData.canLayAll0, h]
  have e2 : PyData.depth (.tuple [.str k, .int a]) ≤ 64 := by simp [PyData.depth, PyData.depthAll]
  unfold SeqAt.shaped
  rw [e1, decide_eq_true e2]; rfl
theorem s_try1 {value : Expr} {ft : Str} {sp : Int} {k9 k10 : Nat} {p1 p2 p3 p4 p5 p6 p7 p8 p9 p10 p11 p12 p13 p14 pos : Pos} {X' : Xs} {R : AF → Loc → AH → Prop} (hq : fi.qual = "law")
    (h : WpE W fi dp un loc H value (fun v H1 => R .next (setL loc "token" v) H1) X')
    (hf : loc "fault" = some (.str ft)) (hsp : loc "spot" = some (.int sp))
    (hX : ∀ k a, X' k a → PyData.strOk k = true ∧ R (.ret (.bool (k == ft && a == sp))) (fun _ => none) hNil) (hft : PyData.strOk ft = true)
    (l1 : locIn fi.scope "token" = true) (l2 : locIn fi.scope "error" = true) (l3 : locIn fi.scope "fault" = true) (l4 : locIn fi.scope "spot" = true) (g1 : globIn fi.scope "ReadError" = true) (hun : un ≤ 5000)
    (hs : ∀ env, swapsWith value (some (.Name "token" p1)) p2.line env = pure false) :
    WpS W fi dp un loc H (.Try [.Assign [.Name "token" p1] value p2] [.ExceptHandler (some (.Name "ReadError" p3)) (some "error")
      [.Return (some (.Compare (.Tuple [.Attribute (.Name "error" p4) "kind" p5, .Attribute (.Name "error" p6) "at" p7] k9 p8) [.Eq] [.Tuple [.Name "fault" p9, .Name "spot" p10] k10 p11] p12)) p13] p14] [] [] pos) R X := by
  constructor
  intro A A₀ base h₀ outer L m led pv s Q E am lr hp hQ hE
  have htop := am.top hq
  refine wpAny_Try_except ?_
  refine wpAny_execs_cons ?_
  refine wpAny_Assign_Name (h.run A A₀ base h₀ outer L m led pv s _ _ am lr hp (fun v av H1 led1 h1 tk1 r1 v1 hp1 => ?_) (fun e k a h' tk hx hat => ?_)) (hs _)
  · refine store_av l1 am lr hp1 v1 fun m' h' tk lr' hp' => ?_
    refine wpAny_execs_nil ?_
    exact wpAny_execs_nil (hQ _ _ _ _ _ _ _ _ r1 rfl lr' hp')
  · obtain ⟨g, B, d, tr, F, up, x, hpv, ht⟩ := hat
    refine x.note (s := { s with heap := h', toks := tk }) ht am.frames rfl fun h2 x2 up2 => ?_
    refine x2.land (s := { s with heap := h2, toks := tk }) fun h3 x3 up3 => ?_
    obtain ⟨hh, gg, dr, tk0, os⟩ := s
    dsimp only at hp hQ
    have sm : g.UpToSlots h3 := up.trans (up2.trans up3)
    have F3 : Fr h₀ L h3 m := F.of_stays (fun b o q => x3.st b o (x3.stays b o (htop ▸ q))) sm
    have Y3 : (KK W).In h3 := am.K.keeps F3.keep
    obtain ⟨nm, qn, N, bs, hdct, sn, sub, ab, col, dd, k0, k1, k2, k3, k5, hC0⟩ := (cl51 W.w).ok
    obtain ⟨oe, vs, e1, e2, e3, e4, e5, e6⟩ := x3.obj
    unfold globIn at g1
    rw [Bool.and_eq_true, beq_iff_eq, Bool.not_eq_true'] at g1
    refine wpAny_handleBy_cons (codeAny_handlers_test ?_) (by intro q; cases q)
    refine nameX_K F3 am.K (topRead_of am.T) (n_ReadError W.w) ?_ am.kind g1.1 g1.2
    refine wpAny_excMatches_sub_self (Y3 _ _ hC0) e1 e2 (by decide) ?_
    show codeAny _ _ (.handlers _ _ _) _ _
    refine codeAny_handlers_suite_as ?_
    refine x3.land (s := ⟨h3, gg, dr, tk, os⟩) fun h4 x4 up4 => ?_
    have F4 : Fr h₀ L h4 m := F3.of_stays (fun b o q => x4.st b o (x4.stays b o (htop ▸ q))) up4
    obtain ⟨oe, vs, e1, e2, e3, e4, e5, e6⟩ := x4.obj
    obtain ⟨es, n, hdd, hfr⟩ := x4.dat
    have BL : B.get? L = none := by
      obtain ⟨_, ⟨L', _, hf, hn', _⟩, _⟩ := x4.fr
      obtain rfl : L = L' := Option.some.inj hf
      exact hn'
    have b0 : ∀ {b : Addr}, B.get? b = none → h₀.get? b = none := fun hb => by rw [← htop]; exact fresh_of_stays x4.stays hb
    have eL : e ≠ L := fun q => by
      obtain ⟨oL, a1, a2, hL, hd, _⟩ := F4.ns
      rw [← q, e1] at hL; cases hL; rw [e4] at hd; cases hd
    have dL : d ≠ L := fun q => by rw [q, BL] at hdd; cases hdd
    have d0 : h₀.get? d = none := by rw [← htop]; exact x4.dn
    let led' := led.filter fun p => @decide (p ∈ pv) (Classical.propDecidable _)
    have N4 : News h₀ L h4 ((e, oe) :: (d, dictOf es n) :: led') := fun p hpm => by
      rcases List.mem_cons.mp hpm with rfl | hpm
      · exact ⟨e1, eL, b0 x4.en⟩
      · rcases List.mem_cons.mp hpm with rfl | hpm
        · exact ⟨x4.st _ _ hdd, dL, d0⟩
        · obtain ⟨q1, q2⟩ := List.mem_filter.mp hpm
          have q3 : p ∈ pv := by simpa using q2
          have z := hp.nw p q1
          exact ⟨x4.st _ _ (hpv p q3).1, z.2⟩
    refine storeX_L (m := m) F4 N4 (fun h5 F5 N5 => ?_) am.kind (locIn_kind l2)
    have Y5 : (KK W).In h5 := am.K.keeps F5.keep
    obtain ⟨⟨t1, q1⟩, t2, q2⟩ := fr_kind_at hfr (n := n)
    have I5 : PySem.W.InstAt h5 e oe 51 (some (dictOf es n)) := ⟨(N5 _ (.head _)).1, e2, by obtain ⟨c0, d0', dt, sl⟩ := oe; dsimp only at e4; subst e4; rfl, by rw [e3]; exact (N5 _ (.tail _ (.head _))).1⟩
    refine wpAny_execs_cons (wpAny_Return_some (wpAny_Compare1 ?_ rfl))
    have hm5 : (fun y => if y = "error" then some (Value.ref e) else m y) "error" = some (.ref e) := if_pos rfl
    obtain ⟨vf, f1, tf, rfl⟩ := lr _ _ hf
    obtain ⟨vs', f2, ts, rfl⟩ := lr _ _ hsp
    unfold locIn at l2 l3 l4
    rw [Bool.and_eq_true, beq_iff_eq, Bool.not_eq_true'] at l2 l3 l4
    refine Tuple_ (spliced_more (Attribute_any_ (nameX_L F5 hm5 ?_ am.kind l2.1 l2.2) rfl) rfl)
    refine get_exc (w := W.w) Y5 I5 en_kind (show lookIn "kind" (dictOf es n) = _ from q1) rfl ?_
    refine spliced_more (Attribute_any_ (nameX_L F5 hm5 ?_ am.kind l2.1 l2.2) rfl) rfl
    refine get_exc (w := W.w) Y5 I5 en_at (show lookIn "at" (dictOf es n) = _ from q2) rfl ?_
    refine spliced_none ?_
    refine newTuple_N F5 N5 (fun h6 F6 N6 => ?_) (by show 2 ≤ sizeLine; decide)
    have ne1 : ("fault" : Str) ≠ "error" := by decide +kernel
    have ne2 : ("spot" : Str) ≠ "error" := by decide +kernel
    refine Tuple_ (spliced_more (nameX_L F6 (v := .str ft tf) (by show (if _ then _ else _) = _; rw [if_neg ne1]; exact f1) ?_ am.kind l3.1 l3.2) rfl)
    refine spliced_more (nameX_L F6 (v := .int sp ts) (by show (if _ then _ else _) = _; rw [if_neg ne2]; exact f2) ?_ am.kind l4.1 l4.2) rfl
    refine spliced_none ?_
    refine newTuple_N F6 N6 (fun h7 F7 N7 => ?_) (by show 2 ≤ sizeLine; decide)
    obtain ⟨hk, hR⟩ := hX k a hx
    refine SeqAt.compareEq_shaped (da := .tuple [.str k, .int a]) (db := .tuple [.str ft, .int sp]) (.tuple (N7 _ (.tail _ (.head _))).1 rfl rfl (.cons (.str k t1) (.cons (.int a t2) .nil))) (.tuple (N7 _ (.head _)).1 rfl rfl (.cons (.str ft tf) (.cons (.int sp ts) .nil))) ?_ ?_ ?_ ?_
    · exact shaped_pair hk
    · exact shaped_pair hft
    · have := am.units; show (A.mark _).units + 64 < 9900; show A.units + 64 < 9900; omega
    · refine wpAny_nameGoes (l2.1) F7.ns ?_ fun h8 m8 ns8 hs8 => ?_
      · show (fi.scope.kind == .class || (fi.scope.kind == .module && L != mainGlobals)) = false; rw [am.kind]; rfl
      · have F8 : Fr h₀ L h8 m8 := F7.set ns8 hs8
        have N8 := N7.set hs8
        have ev : PyData.eqv (.tuple [.str k, .int a]) (.tuple [.str ft, .int sp]) = (k == ft && a == sp) := by simp [PyData.eqv, PyData.eqvAll]
        rw [ev]
        refine hQ _ _ _ m8 hNil led' h8 _ hR ⟨_, rfl, rfl⟩ (fun y av q => by cases q) ⟨F8, fun p hpm => N8 p (.tail _ (.tail _ (.tail _ (.tail _ hpm)))), hp.ord.sublist (List.Sublist.map _ List.filter_sublist), fun a o q => (nomatch q), fun p hpp => ⟨List.mem_filter.mpr ⟨(hp.pv p hpp).1, by simpa using hpp⟩, rfl⟩⟩
end

structure Item where
  g : List Nat
  row : List Nat
  kind : String
  val : PyData
noncomputable def tx : List Item → List Nat → List Nat
  | [], Z => Z
  | i :: is, Z => i.g ++ (i.row ++ tx is Z)
noncomputable def toldD (i : Item) (pos : Nat) : PyData := .tuple [.str (Str.ofString i.kind), i.val, .int pos, .bool (decide (10 ∈ i.g))]
noncomputable def dueD : Nat → List Item → List PyData
  | _, [] => []
  | k, i :: is => toldD i (k + i.g.length) :: dueD (k + i.g.length + i.row.length) is
inductive Good : List Item → List Nat → Prop
  | nil (Z : List Nat) : Good [] Z
  | cons {i : Item} {is : List Item} {Z : List Nat} : GapP i.g → LTok i.row i.kind i.val → Fol (lastOf i.row i.kind) (tx is Z) → Good is Z → Good (i :: is) Z
theorem tx_app : ∀ (is js : List Item) (Z : List Nat), tx (is ++ js) Z = tx is (tx js Z)
  | [], _, _ => rfl
  | i :: is, js, Z => by simp only [List.cons_append, tx, tx_app is js Z]
theorem tx_cat : ∀ (is : List Item) (Z : List Nat), tx is Z = tx is [] ++ Z
  | [], _ => rfl
  | i :: is, Z => by simp only [tx]; rw [tx_cat is Z]; simp
theorem good_app : ∀ {is js : List Item} {Z : List Nat}, Good is (tx js Z) → Good js Z → Good (is ++ js) Z
  | [], _, _, _, h => h
  | i :: is, js, Z, .cons a b c d, h => .cons a b (by rw [show tx (is.append js) Z = tx (is ++ js) Z from rfl, tx_app]; exact c) (good_app d h)
theorem dueD_app : ∀ (is js : List Item) (k : Nat), dueD k (is ++ js) = dueD k is ++ dueD (k + (tx is []).length) js
  | [], _, _ => rfl
  | i :: is, js, k => by
    simp only [List.cons_append, dueD, dueD_app is js]
    have e : k + i.g.length + i.row.length + (tx is []).length = k + (tx (i :: is) []).length := by simp only [tx, List.length_append]; omega
    rw [e]
/-- whatever may follow -/
noncomputable def Snoc (is : List Item) (last : String) : Prop := ∀ Z, Fol last Z → Good is Z
theorem snoc_nil : Snoc [] "" := fun Z _ => .nil Z
theorem snoc_add {is : List Item} {last : String} {i : Item} (h : Snoc is last) (hg : GapP i.g) (hT : LTok i.row i.kind i.val) (hF : ∀ Z, Fol last (i.g ++ (i.row ++ Z))) : Snoc (is ++ [i]) (lastOf i.row i.kind) :=
  fun Z hZ => good_app (h _ (hF Z)) (.cons hg hT hZ (.nil Z))

theorem fword_of {c : Nat} {r : List Nat} (h1 : isN c = false) (h2 : (c == 39 || c == 34) = false) (h3 : c < 128) : FWord (c :: r) := ⟨h1, h2, by simpa [asc] using h3, .inr trivial⟩
noncomputable def wordOk (c : Nat) : Bool := !isN c && !(c == 39 || c == 34) && decide (c < 128)
theorem fword_hd {Y : List Nat} (h : Y ≠ [] → onHd wordOk Y = true) : FWord Y := by
  cases Y with
  | nil => exact ⟨rfl, rfl, rfl, .inr trivial⟩
  | cons c r =>
    have := h (by simp)
    unfold onHd wordOk at this
    simp only [Bool.and_eq_true, Bool.not_eq_true', decide_eq_true_eq] at this
    exact fword_of this.1.1 this.1.2 this.2
theorem sep_ok : ∀ c ∈ sepT, wordOk c = true ∧ isOpC c = false := by decide
theorem op_word : ∀ x ∈ opTexts, onHd wordOk (cps x) = true := by decide +kernel
theorem non_op : (∀ x ∈ idT, onHd isOpC (cps x) = false) ∧ (∀ x ∈ keyT, onHd isOpC (cps x) = false) ∧ (∀ q ∈ numT', onHd isOpC (cps q.1) = false) ∧ onHd isOpC (cps "`if`") = false := by decide +kernel
theorem ltok_kind {row : List Nat} {k : String} {v : PyData} (h : LTok row k v) : k = "id" ∨ k = "key" ∨ k = "num" ∨ k = "str" ∨ k = "op" := by cases h <;> simp
theorem ltok_op {row : List Nat} {k : String} {v : PyData} (h : LTok row k v) (hk : k = "op") : onHd wordOk row = true := by
  cases h with
  | op x hx => exact op_word x hx
  | id x hx => exact absurd hk (by decide)
  | key x hx => exact absurd hk (by decide)
  | bq body v h1 h2 h3 h4 => exact absurd hk (by decide)
  | bqif => exact absurd hk (by decide)
  | num q hq => exact absurd hk (by decide)
  | str q body v h1 h2 h3 h4 => exact absurd hk (by decide)
  | raw c q n o v h1 h2 h3 h4 h5 h6 => exact absurd hk (by decide)
theorem ltok_nop {row : List Nat} {k : String} {v : PyData} (h : LTok row k v) (hk : k ≠ "op") : onHd isOpC row = false := by
  obtain ⟨n1, n2, n3, n4⟩ := non_op
  cases h with
  | op x hx => exact absurd rfl hk
  | id x hx => exact n1 x hx
  | key x hx => exact n2 x hx
  | bq body v h1 h2 h3 h4 => rfl
  | bqif => exact n4
  | num q hq => exact n3 q hq
  | str q body v h1 h2 h3 h4 => rcases h1 with rfl | rfl <;> rfl
  | raw c q n o v h1 h2 h3 h4 h5 h6 => exact (by decide : ∀ r ∈ [114, 82], isOpC r = false) c h1
/-- the signs before a token, as the law asks for them -/
noncomputable def mustB (last : String) (row : List Nat) (kind : String) : Bool :=
  (decide (last = "word") && ((decide (kind = "id" ∨ kind = "key" ∨ kind = "num") && !(row.headD 0 == 96) || decide (row.headD 0 ∈ [114, 82])) || decide (kind = "str"))) || (decide (last = "op") && decide (kind = "op"))
theorem fol_must {last : String} {g row Z : List Nat} {kind : String} {v : PyData} (hT : LTok row kind v) (hg : GapP g) (hm : mustB last row kind = true → g ≠ []) : Fol last (g ++ (row ++ Z)) := by
  obtain ⟨hne, _⟩ := ltok_sep hT
  cases g with
  | cons c r =>
    obtain ⟨s1, s2⟩ := sep_ok c (hg.hd c r rfl)
    exact ⟨fun _ => fword_hd fun _ => s1, fun _ => s2⟩
  | nil =>
    have hm' : mustB last row kind = false := by
      cases e : mustB last row kind with
      | false => rfl
      | true => exact absurd rfl (hm e)
    unfold mustB at hm'
    rw [Bool.or_eq_false_iff] at hm'
    obtain ⟨m1, m2⟩ := hm'
    rw [List.nil_append]
    refine ⟨fun hl => ?_, fun hl => ?_⟩
    · rw [decide_eq_true hl, Bool.true_and, Bool.or_eq_false_iff, Bool.or_eq_false_iff] at m1
      obtain ⟨⟨a1, a2⟩, a3⟩ := m1
      refine fword_hd fun _ => ?_
      rw [onHd_app (.inl hne)]
      by_cases ho : kind = "op"
      · exact ltok_op hT ho
      · have h3 : kind = "id" ∨ kind = "key" ∨ kind = "num" := by
          rcases ltok_kind hT with h | h | h | h | h
          · exact .inl h
          · exact .inr (.inl h)
          · exact .inr (.inr h)
          · rw [decide_eq_true h] at a3; cases a3
          · exact absurd h ho
        rw [decide_eq_true h3, Bool.true_and] at a1
        cases row with
        | nil => exact absurd rfl hne
        | cons c r =>
          have : c = 96 := by simpa using a1
          subst this; rfl
    · rw [decide_eq_true hl, Bool.true_and, decide_eq_false_iff_not] at m2
      show onHd isOpC (row ++ Z) = false
      rw [onHd_app (.inl hne)]
      exact ltok_nop hT m2
theorem gapp_app32 {g : List Nat} (h : GapP g) : GapP (g ++ [32]) := gap_app h (gap_tab [32] (by decide))
theorem fol_gap {last : String} {g Z : List Nat} (hg : GapP g) (hZ : g = [] → Fol last Z) : Fol last (g ++ Z) := by
  cases g with
  | nil => exact hZ rfl
  | cons c r =>
    obtain ⟨s1, s2⟩ := sep_ok c (hg.hd c r rfl)
    exact ⟨fun _ => fword_hd fun _ => s1, fun _ => s2⟩
theorem fol_nil (last : String) : Fol last [] := ⟨fun _ => fword_hd fun h => absurd rfl h, fun _ => rfl⟩
theorem fol_32 (last : String) (Z : List Nat) : Fol last (32 :: Z) := ⟨fun _ => fword_hd fun _ => rfl, fun _ => rfl⟩
theorem told_lay {i : Item} {pos : Nat} (h : LTok i.row i.kind i.val) : SeqAt.shaped (toldD i pos) = true := by
  obtain ⟨h1, h2, h3⟩ := ltok_lay h
  have e1 : PyData.canLay0 (toldD i pos) = true := by simp [toldD, PyData.canLay0, PyData.canLayAll0, h1, h3]
  have e2 : PyData.depth (toldD i pos) ≤ 64 := by simp [toldD, PyData.depth, PyData.depthAll]; omega
  unfold SeqAt.shaped
  rw [e1, decide_eq_true e2]; rfl
mutual
theorem eqv_refl : ∀ d : PyData, PyData.canLay0 d = true → PyData.eqv d d = true
  | .none, _ => rfl
  | .bool b, _ => by simp [PyData.eqv]
  | .int i, _ => by simp [PyData.eqv]
  | .str x, _ => by simp [PyData.eqv]
  | .list xs, h => by simp only [PyData.eqv]; exact eqvAll_refl xs (by simpa [PyData.canLay0] using h)
  | .tuple xs, h => by simp only [PyData.eqv]; exact eqvAll_refl xs (by simpa [PyData.canLay0] using h)
  | .dict _, h => by simp [PyData.canLay0] at h
theorem eqvAll_refl : ∀ ds : List PyData, PyData.canLayAll0 ds = true → PyData.eqvAll ds ds = true
  | [], _ => rfl
  | d :: ds, h => by
    simp only [PyData.canLayAll0, Bool.and_eq_true] at h
    simp only [PyData.eqvAll, Bool.and_eq_true]
    exact ⟨eqv_refl d h.1, eqvAll_refl ds h.2⟩
end
section
variable {W : Wd} {fi : Fi} {dp un : Nat} {loc : Loc} {H : AH} {X : Xs} {R : AV → AH → Prop}
theorem Pl.upd {p F a : Addr} {o : AO} (h : Pl H p F) (n1 : a ≠ p) (n2 : a ≠ F) : Pl (Mine.upd H a o) p F := by
  obtain ⟨fs, i, mx, h1, h2, h3, r⟩ := h.ok
  exact ⟨fs, i, mx, by rw [upd_ne _ _ (Ne.symm n1)]; exact h1, h2, by rw [upd_ne _ _ (Ne.symm n2)]; exact h3, r⟩
theorem Pl.fig {p F : Addr} (h : Pl H p F) : ∃ o, H F = Option.some o := by
  obtain ⟨fs, i, mx, h1, h2, h3, r⟩ := h.ok
  exact ⟨_, h3⟩
theorem one96 (c : Nat) : decide ([c] = [96]) = (c == 96) := by by_cases h : c = 96 <;> simp [h]
theorem item_hd {row : List Nat} (h : row ≠ []) : Txt.item (mk row) 0 = mk [row.headD 0] := by
  cases row with
  | nil => exact absurd rfl h
  | cons c r =>
    unfold Txt.item Txt.charAt
    rw [seqIdx (k := 0) (by decide) (by rw [mk_len]; simp)]
    rfl
noncomputable def kindT : List String := ["id", "key", "num", "str", "op"]
noncomputable def lastT : List String := ["", "op", "word", "str", "id", "key", "num"]
theorem kind_mem {row : List Nat} {k : String} {v : PyData} (h : LTok row k v) : k ∈ kindT := by
  rcases ltok_kind h with rfl | rfl | rfl | rfl | rfl <;> decide
theorem last_mem {row : List Nat} {k : String} (h : k ∈ kindT) : lastOf row k ∈ lastT := by
  have := (by decide : ∀ k ∈ kindT, k ∈ lastT) k h
  unfold lastOf
  split
  · decide
  · split
    · decide
    · exact this
theorem last_tab : ∀ l ∈ lastT, (Str.ofString l == Str.ofString "word") = decide (l = "word") ∧ (Str.ofString l == Str.ofString "op") = decide (l = "op") := by decide +kernel
theorem kind_tab : ∀ k ∈ kindT, (Str.ofString k == Str.ofString "str") = decide (k = "str") ∧ (Str.ofString k == Str.ofString "op") = decide (k = "op") ∧ [Str.ofString "id", Str.ofString "key", Str.ofString "num"].any (· == Str.ofString k) = decide (k = "id" ∨ k = "key" ∨ k = "num") := by decide +kernel
theorem rR_mk : Str.ofString "rR" = mk [114, 82] := by decide +kernel
theorem contains_one (ys : List Nat) (c : Nat) : Txt.contains (mk ys) (mk [c]) = decide (c ∈ ys) := contains_sg ys c []
theorem nl_mk : Str.ofString "\n" = mk [10] := by decide +kernel
/-- the state of the drawing: the heap without the list of what is due -/
structure Dr (p F du : Addr) (is : List Item) (da : List Addr) (last : String) (G : AH) : Prop where
  sn : Snoc is last
  lm : last ∈ lastT
  pl : Pl G p F
  du : G du = none
  dd : Dens (hid p G) (da.map AV.ref) (dueD 0 is)
theorem dens_app {H : AH} : ∀ {as : List AV} {bs : List AV} {ds es : List PyData}, Dens H as ds → Dens H bs es → Dens H (as ++ bs) (ds ++ es) := by
  intro as
  induction as with
  | nil => intro bs ds es h k; cases h; exact k
  | cons a r ih => intro bs ds es h k; cases h with | cons a b => exact .cons a (ih b k)
theorem dens_len {H : AH} : ∀ {as : List AV} {ds : List PyData}, Dens H as ds → as.length = ds.length := by
  intro as
  induction as with
  | nil => intro ds h; cases h; rfl
  | cons a r ih => intro ds h; cases h with | cons a b => rw [List.length_cons, List.length_cons, ih b]
theorem due_len : ∀ (is : List Item) (k : Nat), (dueD k is).length = is.length
  | [], _ => rfl
  | i :: is, k => by simp only [dueD, List.length_cons, due_len is]

/-- one object stands aside while a call runs -/
theorem Call_OK.frame {G : AH} {a : Addr} {o : AO} {f : Value} {as : List AV} {R' : AV → AH → Prop} (hG : G a = none) (h : Call_OK W dp un G f as R' X) (hR : ∀ v G', R' v G' → G' a = none → R v (Mine.upd G' a o)) : Call_OK W dp un (Mine.upd G a o) f as R X := by
  intro vs hvs
  constructor
  intro fi A A₀ base h₀ outer L m led pv s Q E am hp hQ hE
  obtain ⟨ob, m1, ho⟩ := hp.hp a o (upd_same _ _ _)
  have pvne : ∀ p ∈ pv, p.1 ≠ a := fun p hpm q => by have := (hp.pv p hpm).2; rw [q, upd_same] at this; cases this
  have hp' : Hp W h₀ L m led ((a, ob) :: pv) G s.heap := by
    refine ⟨hp.fr, hp.nw, hp.ord, fun b o' e => hp.hp b o' ?_, fun p hpm => ?_⟩
    · rw [upd_ne _ _ (fun q => by rw [q, hG] at e; cases e)]; exact e
    · rcases List.mem_cons.mp hpm with rfl | hpm
      · exact ⟨m1, hG⟩
      · have z := hp.pv p hpm
        rw [upd_ne _ _ (pvne p hpm)] at z
        exact z
  refine (h vs hvs).run fi A A₀ base h₀ outer L m led _ s Q E am hp' (fun v av G' led' h' tk r hv hp2 => ?_) (fun e k a' h' tk hx hat => ?_)
  · have z := hp2.pv (a, ob) (.head _)
    refine hQ v av _ led' h' tk (hR _ _ r z.2) hv ⟨hp2.fr, hp2.nw, hp2.ord, fun b o' e => ?_, fun p hpm => ⟨(hp2.pv p (.tail _ hpm)).1, ?_⟩⟩
    · by_cases q : b = a
      · subst q
        rw [upd_same] at e; cases e
        exact ⟨ob, z.1, ho⟩
      · rw [upd_ne _ _ q] at e
        exact hp2.hp b o' e
    · rw [upd_ne _ _ (pvne p hpm)]; exact (hp2.pv p (.tail _ hpm)).2
  · obtain ⟨g, B, d, tr, F, up, x, hpv, ht⟩ := hat
    exact hE e k a' h' tk hx ⟨g, B, d, tr, F, up, x, fun p hpm => hpv p (.tail _ hpm), ht⟩

noncomputable def seqs (H : AH) : AH := fun a => match H a with
  | some (.tup v) => some (.tup v)
  | some (.lst v) => some (.lst v)
  | _ => none
theorem seqs_ext (H : AH) : Ext (seqs H) H := fun a o e => by
  unfold seqs at e
  split at e
  · rename_i v h; rw [h]; exact e
  · rename_i v h; rw [h]; exact e
  · cases e
mutual
theorem Den.seqs {H : AH} : ∀ {av : AV} {d : PyData}, Den H av d → Den (seqs H) av d
  | _, _, .none => .none
  | _, _, .bool b => .bool b
  | _, _, .int i => .int i
  | _, _, .str s => .str s
  | _, _, .lst e r => .lst (by unfold Mine.seqs; rw [e]) (Dens.seqs r)
  | _, _, .tup e r => .tup (by unfold Mine.seqs; rw [e]) (Dens.seqs r)
theorem Dens.seqs {H : AH} : ∀ {avs : List AV} {ds : List PyData}, Dens H avs ds → Dens (seqs H) avs ds
  | _, _, .nil => .nil
  | _, _, .cons a b => .cons (Den.seqs a) (Dens.seqs b)
end
theorem seqs_dict {H H' : AH} {d : Addr} {f : List (Str × AV)} (x : Ext (seqs H) H') (h : H' d = some (.dict f)) : seqs H d = none := by
  cases e : seqs H d with
  | none => rfl
  | some o =>
    have := x d o e
    rw [h] at this; cases this
    unfold seqs at e
    split at e <;> cases e
theorem dens_get {H : AH} : ∀ {as : List AV} {ds : List PyData} {k : Nat} {v : AV}, Dens H as ds → as[k]? = some v → ∃ d, ds[k]? = some d ∧ Den H v d
  | _, _, k, v, .nil, h => by simp at h
  | _, _, 0, v, .cons a b, h => by simp at h; subst h; exact ⟨_, rfl, a⟩
  | _, _, k + 1, v, .cons a b, h => by simp at h; obtain ⟨d, h1, h2⟩ := dens_get b h; exact ⟨d, by simpa using h1, h2⟩
theorem due_get : ∀ (is : List Item) (k j : Nat) {d : PyData}, (dueD k is)[j]? = some d → ∃ i, is[j]? = some i ∧ d = toldD i (k + (tx (is.take j) []).length + i.g.length)
  | [], k, j, d, h => by simp [dueD] at h
  | i :: is, k, 0, d, h => by simp [dueD] at h; exact ⟨i, rfl, by rw [← h]; simp [tx]⟩
  | i :: is, k, j + 1, d, h => by
    have h' : (dueD (k + i.g.length + i.row.length) is)[j]? = some d := by simpa [dueD] using h
    obtain ⟨i', h1, h2⟩ := due_get is _ j h'
    refine ⟨i', by simpa using h1, ?_⟩
    rw [h2]
    congr 1
    simp only [List.take_succ_cons, tx, List.length_append]; omega
theorem good_drop : ∀ {is : List Item} {Z : List Nat} (k : Nat), Good is Z → Good (is.drop k) Z
  | _, _, 0, h => h
  | [], _, k + 1, h => by simpa using h
  | i :: is, Z, k + 1, .cons _ _ _ d => by simpa using good_drop k d
theorem tx_take_drop (is : List Item) (k : Nat) (Z : List Nat) : tx is Z = tx (is.take k) [] ++ tx (is.drop k) Z := by
  conv => lhs; rw [← List.take_append_drop k is]
  rw [tx_app, tx_cat]
theorem fault_tab : ∀ q ∈ faultT, (Str.ofString q.2.1 != Str.ofString "") = decide (q.2.1 ≠ "") ∧ (q.2.1 = "" → q = ("", "", 0)) ∧ (q.2.1 ≠ "" → q ∈ faultT.tail) ∧ PyData.strOk (Str.ofString q.2.1) = true ∧ (cps q.1).length ≤ 20 ∧ 0 ≤ q.2.2 := by decide +kernel
theorem upd_swap {G : AH} {a b : Addr} {o o' t : AO} (h : b ≠ a) : Mine.upd (Mine.upd (Mine.upd G a o) b t) a o' = Mine.upd (Mine.upd G b t) a o' := by
  funext c
  unfold Mine.upd
  by_cases q : c = a
  · simp only [if_pos q]
  · by_cases q2 : c = b
    · simp only [if_pos q2, if_neg q]
    · simp only [if_neg q2, if_neg q]
theorem lastOf_eq {row : List Nat} {kind : String} (h : row ≠ []) : lastOf row kind = if kind = "op" then "op" else if (decide (kind = "id" ∨ kind = "key" ∨ kind = "num") && !(row.headD 0 == 96)) = true then "word" else kind := by
  unfold lastOf
  cases row with
  | nil => exact absurd rfl h
  | cons c r =>
    by_cases h1 : kind = "op"
    · rw [if_pos h1, if_pos h1]
    · rw [if_neg h1, if_neg h1]
      by_cases h2 : kind = "id" ∨ kind = "key" ∨ kind = "num"
      · by_cases h3 : c = 96
        · subst h3; rw [if_neg (by simp), if_neg (by simp)]
        · rw [if_pos ⟨h2, by simpa using h3⟩, if_pos (by simp [h2, h3])]
      · rw [if_neg (fun z => h2 z.1), if_neg (by simp [h2])]
theorem Lx.hidL {x d ks a : Addr} {T : Str} {k : Int} {nl : Bool} {v : List AV} (h : Lx H x d ks T k nl) (ha : H a = some (.lst v)) : Lx (hid a H) x d ks T k nl :=
  ⟨hid_of (fun q => by have := h.x; rw [q, ha] at this; cases this) h.x, hid_of (fun q => by have := h.d; rw [q, ha] at this; cases this) h.d, hid_of (fun q => by have := h.ks; rw [q, ha] at this; cases this) h.ks⟩
theorem tl_tx {T : Str} {its : List Item} {Z : List Nat} (hT : T = mk (tx its Z)) (k : Nat) : tl T (tx (its.take k) []).length = tx (its.drop k) Z := by
  unfold tl
  rw [hT, mk_toList, tx_take_drop its k Z, List.drop_left]
theorem semi_row : cps ";" = [59] ∧ Str.ofString " ; " = mk [32, 59, 32] := by decide +kernel
theorem semi_tok : LTok (cps ";") "op" (.str (Str.ofString ";")) := LTok.op ";" (by decide)
theorem mul_small {a b : Nat} (ha : a < 2) (hb : b < 26) : IntMulOk (a : Int) (b : Int) := by
  have : a = 0 ∨ a = 1 := by omega
  rcases this with rfl | rfl
  · exact IntMulOk.of_left (by decide)
  · exact IntMulOk.of_left (by decide)
theorem lx_ext {H H' : AH} {x d ks : Addr} {T : Str} {k : Int} {nl : Bool} (h : Lx H x d ks T k nl) (e : Ext H H') : Lx H' x d ks T k nl := ⟨e _ _ h.x, e _ _ h.d, e _ _ h.ks⟩
theorem drop_of_get {is : List Item} {k : Nat} {i : Item} (h : is[k]? = some i) : is.drop k = i :: is.drop (k + 1) := by
  obtain ⟨h1, h2⟩ := List.getElem?_eq_some_iff.mp h
  rw [← h2, List.drop_eq_getElem_cons h1]
theorem take_of_get {is : List Item} {k : Nat} {i : Item} (h : is[k]? = some i) : (tx (is.take (k + 1)) []).length = (tx (is.take k) []).length + i.g.length + i.row.length := by
  rw [List.take_add_one, h, tx_app, tx_cat, List.length_append]
  simp only [Option.toList, tx, List.length_append, List.length_nil]; omega
theorem told_can {i : Item} {pos : Nat} (h : LTok i.row i.kind i.val) : PyData.canLay0 (toldD i pos) = true := by
  have := told_lay (pos := pos) h
  unfold SeqAt.shaped at this
  rw [Bool.and_eq_true] at this
  exact this.1
theorem seqs_none {H : AH} {a : Addr} (h : H a = none) : seqs H a = none := by unfold seqs; rw [h]
theorem shaped3 {a b : Str} {n : Int} (ha : PyData.strOk a = true) (hb : PyData.strOk b = true) : SeqAt.shaped (.tuple [.str a, .str b, .int n]) = true ∧ PyData.canLay0 (.tuple [.str a, .str b, .int n]) = true := by
  have e1 : PyData.canLay0 (.tuple [.str a, .str b, .int n]) = true := by simp [PyData.canLay0, PyData.canLayAll0, ha, hb]
  have e2 : PyData.depth (.tuple [.str a, .str b, .int n]) ≤ 64 := by simp [PyData.depth, PyData.depthAll]
  refine ⟨?_, e1⟩
  unfold SeqAt.shaped
  rw [e1, decide_eq_true e2]; rfl
theorem tl_end (T : Str) : tl T T.length = [] := by unfold tl; exact List.drop_of_length_le (by rw [str_len]; exact Nat.le_refl _)
theorem den_int {i j : Int} (h : i = j) : Den H (.int i) (.int j) := h ▸ .int i
theorem den_bool {a b : Bool} (h : a = b) : Den H (.bool a) (.bool b) := h ▸ .bool a
end

noncomputable abbrev LFi (fa : Addr) (cd : Value) : Fi := ⟨Str.ofString "law", sc371, fa, cd⟩
noncomputable def drop? : Nat → List Stmt → Option (List Stmt)
  | 0, l => some l
  | n + 1, _ :: l => drop? n l
  | _ + 1, [] => none
noncomputable def forBody? : List Stmt → Option (List Stmt)
  | .For _ _ b .. :: _ => some b
  | _ => none
noncomputable abbrev lwB : List Stmt := by
  refine (?f : (l : List Stmt) → (drop? 4 bd371).bind forBody? = some l → List Stmt) _ rfl
  exact fun l _ => l
noncomputable abbrev lw5 : List Stmt := by
  refine (?f : (l : List Stmt) → drop? 5 bd371 = some l → List Stmt) _ rfl
  exact fun l _ => l
noncomputable abbrev lw11 : List Stmt := by
  refine (?f : (l : List Stmt) → drop? 11 bd371 = some l → List Stmt) _ rfl
  exact fun l _ => l
noncomputable abbrev lw12 : List Stmt := by
  refine (?f : (l : List Stmt) → drop? 12 bd371 = some l → List Stmt) _ rfl
  exact fun l _ => l
section
variable {W : Wd} {dp un : Nat} {H : AH} {X : Xs} {R : AF → Loc → AH → Prop} {fa : Addr} {cd : Value}
/-- one token is drawn -/
theorem draw_step {p F du : Addr} {is : List Item} {da : List Addr} {last : String} {G : AH} {k : Nat} {av : AV} (hdp : dp ≤ 310) (hD : Dr p F du is da last G) (i2 : is.length ≤ k) (i3 : (tx is []).length ≤ 100 * k) (hk : k < 8)
    (r : ∀ is' da' last' G' loc2 H3, Dr p F du is' da' last' G' → is'.length ≤ k + 1 → (tx is' []).length ≤ 100 * (k + 1) → SubL [("pool", .ref p), ("wide", .str (mk (tx is' []))), ("due", .ref du), ("last", .str (Str.ofString last'))] loc2 → Ext (Mine.upd G' du (.lst (da'.map AV.ref))) H3 → R .next loc2 H3) :
    WpSS W (LFi fa cd) dp un (setL (locOf [("pool", .ref p), ("wide", .str (mk (tx is []))), ("due", .ref du), ("last", .str (Str.ofString last))]) "step" av) (Mine.upd G du (.lst (da.map AV.ref))) lwB R X := by
  walk_at "s"
  walk_at "v"
  refine Call_OK.frame (R' := fun r G' => ∃ t row kind v d, r = .ref t ∧ hid p G' t = some (.tup [.str (mk row), .str (Str.ofString kind), v]) ∧ Den (hid p G') v d ∧ LTok row kind d ∧ Pl G' p F ∧ Keep p G G') hD.du (c_ltoken (by omega) hD.pl fun t row kind v d H' ht hden hT hP' k' => ⟨t, row, kind, v, d, rfl, ht, hden, hT, hP', k'⟩) fun v G4 hr hG4 => ?_
  obtain ⟨t, row, kind, v, d, rfl, ht, hden, hT, hP4, k4⟩ := hr
  have htd : t ≠ du := fun q => by rw [q] at ht; rw [(of_hid ht).2] at hG4; cases hG4
  refine ⟨t, _, rfl, (upd_ne _ _ htd).trans (of_hid ht).2, rfl, ?_⟩
  obtain ⟨hne, hsep⟩ := ltok_sep hT
  have hlen := ltok_len hT
  have hkm := kind_mem hT
  obtain ⟨q1, q2, q3⟩ := kind_tab kind hkm
  obtain ⟨z1, z2⟩ := last_tab last hD.lm
  walk_at "s"
  walk_at "v"
  refine ⟨by simp, fun l1 hl1 => ?_⟩
  refine c_inL (ys := [Str.ofString "id", Str.ofString "key", Str.ofString "num"]) (upd_same _ _ _) ?_
  have hrl : (0 : Int) < ((mk row).length : Nat) := by rw [mk_len]; have : row.length ≠ 0 := fun z => hne (List.length_eq_zero_iff.mp z); omega
  have hrl2 : (mk row).length < 2 ^ 62 := by rw [mk_len]; omega
  (apply jAnd rfl; focus (intro _))
  · walk_at "v"
    refine sub_str (by decide) hrl hrl2 ?_ rfl
    rw [item_hd hne, lit_bq]
    walk_at "v"
    rw [bne_not, mk_eq, one96]
    exact ⟨rfl, rfl⟩
  (apply jAnd rfl; focus (intro _))
  · walk_at "v"
    refine sub_str (by decide) hrl hrl2 ?_ rfl
    rw [item_hd hne, rR_mk]
    walk_at "v"
    rw [contains_one]
    exact ⟨rfl, rfl⟩
  rw [q3]
  refine' (?_ : WpSS _ _ _ _ _ (Mine.upd _ l1 _) _ _ _)
  refine WpF.ext (Ext.new (Ext.refl _) hl1) ?_
  walk_at "s"
  walk_at "v"
  rw [z1]
  (apply jAnd rfl; focus (intro _))
  · walk_at "v"
    (apply jAnd rfl; focus (intro _))
    · walk_at "v"
      rw [q1]
      exact ⟨rfl, rfl⟩
    exact ⟨rfl, rfl⟩
  (apply jAnd rfl; focus (intro _))
  · walk_at "v"
    rw [z2]
    (apply jAnd rfl; focus (intro _))
    · walk_at "v"
      rw [q2]
      exact ⟨rfl, rfl⟩
    exact ⟨rfl, rfl⟩
  walk_at "s"
  walk_at "v"
  refine Call_OK.frame (R' := fun r G' => ∃ g, r = .str (mk g) ∧ GapP g ∧ g.length ≤ 24 ∧ (mustB last row kind = true → g ≠ []) ∧ Pl G' p F ∧ Keep p G4 G') hG4 (c_lgap (must := mustB last row kind) (by omega) hP4 fun g H' a b c e f => ⟨g, rfl, a, b, c, e, f⟩) fun r G5 hr hG5 => ?_
  obtain ⟨g, rfl, hg, hgl, hgm, hP5, k5⟩ := hr
  have k45 : Keep p G G5 := k4.trans k5
  walk_at "s"
  walk_at "v"
  refine i_cat (by rw [mk_len, mk_len, sizeLine_eq]; omega) ?_
  rw [mk_app]
  walk_at "s"
  walk_at "v"
  refine ⟨.bi "list.append", trivial, m_append (upd_same _ _ _), ?_⟩
  walk_at "v"
  refine k_lenS (by rw [mk_len, List.length_append]; omega) ?_
  walk_at "v"
  rw [mk_len, nl_mk, contains_one]
  refine ⟨by simp, fun b hb => ?_⟩
  walk_at "v"
  have hbd : b ≠ du := fun q => by rw [q, upd_same] at hb; cases hb
  have hb5 : G5 b = none := by rw [upd_ne _ _ hbd] at hb; exact hb
  refine k_append ((upd_ne _ _ (Ne.symm hbd)).trans (upd_same _ _ _)) (by rw [dens_len hD.dd, due_len]; omega) ⟨rfl, ?_⟩
  rw [upd_swap hbd]
  walk_at "s"
  walk_at "v"
  refine i_cat (by rw [mk_len, mk_len, sizeLine_eq, List.length_append]; omega) ?_
  rw [mk_app]
  have hbp : b ≠ p := by obtain ⟨o, ho⟩ := hP5.some; exact kp_ne ho hb5
  have xb := Ext.new (o := AO.tup [AV.str (Str.ofString kind), v, AV.int ((tx is [] ++ g).length : Nat), AV.bool (decide (10 ∈ g))]) (Ext.refl G5) hb5
  have xh : Ext (hid p G5) (hid p (Mine.upd G5 b (AO.tup [AV.str (Str.ofString kind), v, AV.int ((tx is [] ++ g).length : Nat), AV.bool (decide (10 ∈ g))]))) := (Keep.of_ext xb).ext
  have hDr : Dr p F du (is ++ [⟨g, row, kind, d⟩]) (da ++ [b]) (lastOf row kind) (Mine.upd G5 b (AO.tup [AV.str (Str.ofString kind), v, AV.int ((tx is [] ++ g).length : Nat), AV.bool (decide (10 ∈ g))])) := by
    refine ⟨snoc_add hD.sn hg hT (fun Z => fol_must hT hg hgm), last_mem hkm, hP5.ext xb, (upd_ne _ _ (Ne.symm hbd)).trans hG5, ?_⟩
    rw [List.map_append, dueD_app]
    refine dens_app (Dens.ext (k45.ext.trans xh) hD.dd) (.cons ?_ .nil)
    refine .tup (hid_of hbp (upd_same _ _ _)) (.cons (.str _) (.cons (Den.ext (k5.ext.trans xh) hden) (.cons ?_ (.cons (.bool _) .nil))))
    rw [List.length_append, Nat.zero_add]
    exact .int _
  have hil : (is ++ [(⟨g, row, kind, d⟩ : Item)]).length ≤ k + 1 := by rw [List.length_append]; show is.length + 1 ≤ _; omega
  have htl : (tx (is ++ [(⟨g, row, kind, d⟩ : Item)]) []).length ≤ 100 * (k + 1) := by
    rw [tx_app, tx_cat, List.length_append]; simp only [tx, List.length_append, List.length_nil]; omega
  have etx : tx is [] ++ g ++ row = tx (is ++ [(⟨g, row, kind, d⟩ : Item)]) [] := by rw [tx_app, tx_cat is (tx _ _)]; simp [tx]
  have elst : da.map AV.ref ++ [AV.ref b] = (da ++ [b]).map AV.ref := by simp
  rw [etx, elst]
  have r0 := fun last' (hl : lastOf row kind = last') loc2 H3 s x => r _ _ _ _ loc2 H3 (hl ▸ hDr) hil htl s x
  clear hDr hil htl xh xb etx elst
  generalize tx (is ++ [(⟨g, row, kind, d⟩ : Item)]) [] = T1 at r0 ⊢
  generalize Mine.upd G5 b (AO.tup [AV.str (Str.ofString kind), v, AV.int ((tx is [] ++ g).length : Nat), AV.bool (decide (10 ∈ g))]) = G6 at r0 ⊢
  generalize (da ++ [b]) = D1 at r0 ⊢
  walk_at "s"
  walk_at "v"
  rw [q2]
  refine ⟨_, rfl, fun ho => ?_, fun ho => ?_⟩
  · have ho' : kind = "op" := by simpa using ho
    walk_at "v"
    walk_at "s"
    exact r0 "op" (by unfold lastOf; rw [if_pos ho']) _ _ ⟨rfl, rfl, rfl, rfl, trivial⟩ (Ext.refl _)
  · have ho' : ¬ kind = "op" := by simpa using ho
    have hlo := lastOf_eq (kind := kind) hne
    rw [if_neg ho'] at hlo
    walk_at "v"
    refine ⟨by simp, fun l2 hl2 => ?_⟩
    refine c_inL (ys := [Str.ofString "id", Str.ofString "key", Str.ofString "num"]) (upd_same _ _ _) ?_
    refine ⟨_, rfl, ?_⟩
    (apply jTst; focus (intro _))
    · walk_at "v"
      refine sub_str (by decide) hrl hrl2 ?_ rfl
      rw [item_hd hne, lit_bq]
      walk_at "v"
      rw [bne_not, mk_eq, one96]
      exact ⟨_, rfl, rfl, rfl⟩
    rw [q3]
    refine ⟨fun hw => ?_, fun hw => ?_⟩
    · rw [if_pos hw] at hlo
      walk_at "v"
      walk_at "s"
      exact r0 "word" hlo _ _ ⟨rfl, rfl, rfl, rfl, trivial⟩ (Ext.new (Ext.refl _) hl2)
    · rw [if_neg (by rw [hw]; decide)] at hlo
      walk_at "v"
      walk_at "s"
      exact r0 kind hlo _ _ ⟨rfl, rfl, rfl, rfl, trivial⟩ (Ext.new (Ext.refl _) hl2)
/-- the tokens that are due are read -/
theorem due_lem {x d ks du : Addr} {T f : Str} {sp : Int} {is : List Item} {Z : List Nat} {as : List AV} {G H9 : AH} (hdp : dp ≤ 310) (hun : un ≤ 5000) (lx9 : Lx H9 x d ks T 0 false) (hTT : T = mk (tx is Z)) (hTl : T.length ≤ 100000) (hGood : Good is Z)
    (hdd : Dens (seqs G) as (dueD 0 is)) (hdu9 : H9 du = some (.lst as)) (hbdu : seqs G du = none) (hbx : Ext (seqs G) H9)
    (kk : ∀ H nl, Lx H x d ks T ((tx is []).length : Nat) nl → WpSS W (LFi fa cd) dp un (locOf [("wide", .str T), ("fault", .str f), ("spot", .int sp), ("lexer", .ref x)]) H lw12 R X) :
    WpSS W (LFi fa cd) dp un (locOf [("wide", .str T), ("fault", .str f), ("spot", .int sp), ("lexer", .ref x), ("due", .ref du)]) H9 lw11 R X := by
  refine ss_forJ (σ := Nat × AH) (τ := AH) (fun H => ∃ nl, Lx H x d ks T ((tx is []).length : Nat) nl) (fun _ => [("wide", .str T), ("fault", .str f), ("spot", .int sp), ("lexer", .ref x)]) (fun H => H) rfl (fun _ _ => rfl) ?_ ?_
  · walk_at "v"
    refine ⟨_, _, fun k (st : Nat × AH) => st.1 = (tx (is.take k) []).length ∧ (∃ nl, Lx st.2 x d ks T (st.1 : Nat) nl) ∧ Ext (seqs G) st.2, fun st => [("wide", .str T), ("fault", .str f), ("spot", .int sp), ("lexer", .ref x)], fun st => st.2, (0, hid du H9), .inr (.inr ⟨du, rfl, hdu9, rfl⟩), ⟨by simp [tx], ⟨false, lx9.hidL hdu9⟩, ?_⟩, ⟨rfl, rfl, rfl, rfl, trivial⟩, Ext.refl _, ?_, ?_⟩
    · exact fun a o e => hid_of (fun z => by rw [z, hbdu] at e; cases e) (hbx a o e)
    · rintro k ⟨pos, H⟩ av ⟨hpos, ⟨nl, lx⟩, hx⟩ hav
      dsimp only at hpos lx hx
      subst hpos
      obtain ⟨dd, hd1, hd2⟩ := dens_get hdd hav
      obtain ⟨i, hi1, rfl⟩ := due_get is 0 k hd1
      have hdrop := drop_of_get hi1
      have hgk := good_drop k hGood
      rw [hdrop] at hgk
      cases hgk with
      | cons g1 g2 g3 g4 =>
        have htl : tl T (tx (is.take k) []).length = i.g ++ (i.row ++ tx (is.drop (k + 1)) Z) := by rw [tl_tx hTT, hdrop]; rfl
        have etk := take_of_get hi1
        rw [Nat.zero_add] at hd2
        generalize (tx (is.take k) []).length = n0 at *
        generalize tx (is.drop (k + 1)) Z = Z1 at *
        walk_at "s"
        walk_at "v"
        refine ⟨.own 203, ok_next_token, meth_inst lx.x lx.d ma_next_token rfl, ?_⟩
        walk_at "v"
        refine c_item g1 g2 g3 lx hTl (by omega) htl fun t td v H' ht hv' lx' fr => ?_
        walk_at "v"
        refine c_ltold (by omega) ht hv' fun aa H'' hden _ xx => ?_
        walk_at "v"
        have hdn := seqs_dict hx lx.d
        have hx' : Ext (seqs G) H' := fun b o e => fr b o (fun z => by rw [z, hdn] at e; cases e) (hx b o e)
        have hden2 := Den.ext (hx'.trans xx) hd2
        refine c_neD (da := toldD i (n0 + i.g.length)) (db := toldD i (n0 + i.g.length)) hden hden2 (told_lay g2) (told_lay g2) (by omega) ?_
        rw [eqv_refl _ (told_can g2)]
        refine ⟨_, rfl, fun z => (nomatch z), fun _ => ?_⟩
        walk_at "s"
        walk_at "s"
        exact ⟨((tx (is.take (k + 1)) []).length, H''), ⟨rfl, ⟨decide (10 ∈ i.g), by rw [etk]; exact lx_ext lx' xx⟩, hx'.trans xx⟩, ⟨rfl, rfl, rfl, rfl, trivial⟩, Ext.refl _⟩
    · rintro ⟨pos, H⟩ ⟨hpos, hl, hx⟩
      dsimp only at hpos hl hx
      have hlen : as.length = is.length := by rw [dens_len hdd, due_len]
      rw [hlen, List.take_length] at hpos
      subst hpos
      exact ⟨H, hl, ⟨rfl, rfl, rfl, rfl, trivial⟩, Ext.refl _⟩
  · rintro H ⟨nl, lx⟩
    exact kk H nl lx
/-- the fault is raised -/
theorem end_fault {x d ks : Addr} {T : Str} {q : String × String × Int} {sp : Int} {k : Nat} {nl : Bool} (hdp : dp ≤ 310) (hun : un ≤ 5000) (lx : Lx H x d ks T k nl) (hTl : T.length ≤ 100000) (htz : tl T k = 32 :: cps q.1) (hq : q ∈ faultT.tail)
    (f4 : PyData.strOk (Str.ofString q.2.1) = true) (hsp : ((k + 1 : Nat) : Int) + q.2.2 = sp) (r : R (.ret (.bool true)) (fun _ => none) hNil) :
    WpSS W (LFi fa cd) dp un (locOf [("wide", .str T), ("fault", .str (Str.ofString q.2.1)), ("spot", .int sp), ("lexer", .ref x)]) H lw12 R X := by
  refine ss_forJ (σ := Unit) (τ := Unit) (fun _ => False) (fun _ => []) (fun _ => hNil) rfl (fun _ _ => rfl) ?_ ?_
  · walk_at "v"
    refine k_range fun rg hrg => ?_
    refine ⟨_, _, fun k _ => k = 0, fun _ => [("wide", .str T), ("fault", .str (Str.ofString q.2.1)), ("spot", .int sp), ("lexer", .ref x)], fun _ => H, (), .inr (.inl ⟨rg, 2, rfl, upd_same _ _ _, by decide, by decide, rfl, rfl⟩), rfl, ⟨rfl, rfl, rfl, rfl, trivial⟩, Ext.new (Ext.refl _) hrg, ?_, ?_⟩
    · rintro k st av rfl hav
      refine ss_cons (s_try1 (X' := fun kd a => kd = Str.ofString q.2.1 ∧ a = sp) rfl ?_ rfl rfl (fun kd a h => ⟨by rw [h.1]; exact f4, ?_⟩) f4 rfl rfl rfl rfl rfl hun (fun _ => rfl))
      · walk_at "v"
        refine ⟨.own 203, ok_next_token, meth_inst lx.x lx.d ma_next_token rfl, ?_⟩
        walk_at "v"
        exact c_fault hq lx hTl hdp htz (fun a ha => ⟨rfl, ha.trans hsp⟩)
      · have e : (kd == Str.ofString q.2.1 && a == sp) = true := by rw [h.1, h.2]; simp
        rw [e]
        exact r
    · intro st h
      simp at h
  · intro _ h
    exact h.elim
/-- no fault: the end is read twice -/
theorem end_plain {x d ks : Addr} {T f : Str} {k : Nat} {nl : Bool} {g : List Nat} (hdp : dp ≤ 310) (hun : un ≤ 5000) (lx : Lx H x d ks T k nl) (hTl : T.length ≤ 100000) (htz : tl T k = g) (hlen : k + g.length = T.length) (hg : GapP g)
    (hfe : (f != Str.ofString "") = false) (f4 : PyData.strOk f = true) (r : ∀ l H', R (.ret (.bool true)) l H') :
    WpSS W (LFi fa cd) dp un (locOf [("wide", .str T), ("fault", .str f), ("spot", .int (-1)), ("lexer", .ref x)]) H lw12 R X := by
  refine ss_forJ (σ := Nat × AH) (τ := Unit) (fun _ => True) (fun _ => []) (fun _ => hNil) rfl (fun _ _ => rfl) ?_ ?_
  · walk_at "v"
    refine k_range fun rg hrg => ?_
    refine ⟨_, _, fun _ (st : Nat × AH) => (∃ nl, Lx st.2 x d ks T (st.1 : Nat) nl) ∧ GapP (tl T st.1) ∧ st.1 + (tl T st.1).length = T.length, fun st => [("wide", .str T), ("fault", .str f), ("spot", .int (-1)), ("lexer", .ref x)], fun st => st.2, (k, H), .inr (.inl ⟨rg, 2, rfl, upd_same _ _ _, by decide, by decide, rfl, rfl⟩), ⟨⟨nl, lx⟩, ?_, ?_⟩, ⟨rfl, rfl, rfl, rfl, trivial⟩, Ext.new (Ext.refl _) hrg, ?_, ?_⟩
    · rw [htz]; exact hg
    · rw [htz]; exact hlen
    · rintro k ⟨pos, H⟩ av ⟨⟨nl, lx⟩, hgp, hend⟩ hav
      dsimp only at lx hgp hend
      refine ss_cons (s_try1 (X' := fun _ _ => False) rfl ?_ rfl rfl (fun _ _ h => h.elim) f4 rfl rfl rfl rfl rfl hun (fun _ => rfl))
      walk_at "v"
      refine ⟨.own 203, ok_next_token, meth_inst lx.x lx.d ma_next_token rfl, ?_⟩
      walk_at "v"
      refine c_end hgp lx hTl hdp rfl fun t td H' ht lx' fr => ?_
      rw [hend] at ht lx'
      refine ss_cons (s_if (t_or ?_))
      walk_at "v"
      rw [hfe]
      refine ⟨_, rfl, fun _ => ?_, fun z => (nomatch z)⟩
      walk_at "v"
      refine ⟨t, 114, td, _, _, rfl, ht.t, ht.td, ft_kind, rfl, rfl, ?_⟩
      walk_at "v"
      refine ⟨t, 114, td, _, _, rfl, ht.t, ht.td, ft_value, rfl, rfl, ?_⟩
      walk_at "v"
      refine ⟨t, 114, td, _, _, rfl, ht.t, ht.td, ft_at, rfl, rfl, ?_⟩
      walk_at "v"
      refine ⟨by simp, fun b1 hb1 => ?_⟩
      walk_at "v"
      refine k_lenS (by exact Nat.le_trans hTl (by decide)) ?_
      walk_at "v"
      refine ⟨by simp, fun b2 hb2 => ?_⟩
      have x1 := Ext.new (o := AO.tup [AV.str (Str.ofString "eof"), AV.str (Str.ofString ""), AV.int (T.length : Nat)]) (Ext.refl H') hb1
      have x2 := Ext.new (o := AO.tup [AV.str (Str.ofString "eof"), AV.str (Str.ofString ""), AV.int (T.length : Nat)]) (Ext.refl _) hb2
      obtain ⟨s1, s2⟩ := shaped3 (a := Str.ofString "eof") (b := Str.ofString "") (n := (T.length : Nat)) (by decide +kernel) (by decide +kernel)
      refine c_neD (da := .tuple [.str (Str.ofString "eof"), .str (Str.ofString ""), .int (T.length : Nat)]) (db := .tuple [.str (Str.ofString "eof"), .str (Str.ofString ""), .int (T.length : Nat)]) (.tup (x2 _ _ (upd_same _ _ _)) (.cons (.str _) (.cons (.str _) (.cons (.int _) .nil)))) (.tup (upd_same _ _ _) (.cons (.str _) (.cons (.str _) (.cons (.int _) .nil)))) s1 s1 (by omega) ?_
      rw [eqv_refl _ s2]
      refine ⟨_, rfl, fun z => (nomatch z), fun _ => ?_⟩
      walk_at "s"
      walk_at "s"
      refine ⟨(T.length, _), ⟨⟨_, lx_ext lx' (x1.trans x2)⟩, ?_, ?_⟩, ⟨rfl, rfl, rfl, rfl, trivial⟩, Ext.refl _⟩
      · rw [tl_end]; exact gap_nil
      · rw [tl_end]; rfl
    · intro st _
      exact ⟨(), trivial, trivial, fun a o e => (nomatch e)⟩
  · intro _ _
    walk_at "s"
    walk_at "v"
    exact r _ _
/-- after the draws -/
theorem law_tail {p F du : Addr} {is : List Item} {da : List Addr} {last : String} {G : AH} (hdp0 : dp ≤ 310) (hun : un ≤ 5000) (hD : Dr p F du is da last G) (i2 : is.length ≤ 8) (i3 : (tx is []).length ≤ 100 * 8) (r : ∀ l H', R (.ret (.bool true)) l H') :
    WpSS W (LFi fa cd) dp un (locOf [("pool", .ref p), ("wide", .str (mk (tx is []))), ("due", .ref du)]) (Mine.upd G du (.lst (da.map AV.ref))) lw5 R X := by
  walk_at "s"
  walk_at "v"
  refine Call_OK.frame (R' := fun r G' => ∃ g, r = .str (mk g) ∧ GapP g ∧ g.length ≤ 24 ∧ Pl G' p F ∧ Keep p G G') hD.du (c_lgap (must := false) (by omega) hD.pl fun g H' a b c e f => ⟨g, rfl, a, b, e, f⟩) fun r G5 hr hG5 => ?_
  obtain ⟨g, rfl, hg, hgl, hP5, k5⟩ := hr
  have hdp : du ≠ p := by obtain ⟨o, ho⟩ := hP5.some; exact kp_ne ho hG5
  have hdF : du ≠ F := by obtain ⟨o, ho⟩ := hP5.fig; exact kp_ne ho hG5
  walk_at "s"
  walk_at "v"
  refine i_cat (by rw [mk_len, mk_len, sizeLine_eq]; omega) ?_
  rw [mk_app]
  walk_at "s"
  walk_at "v"
  refine c_lfaults (by omega) fun l as H6 hl1 hl2 hl3 hv x6 => ?_
  walk_at "v"
  refine c_pick (by omega) (by decide) ((hP5.upd hdp hdF).ext x6) fun a ha H7 hP7 k7 => ?_
  walk_at "v"
  refine c_pick (by omega) (by decide) hP7 fun b hb H8 hP8 k8 => ?_
  refine b_mul (mul_small (by omega) (by omega)) ?_
  have hab : a * b < faultT.length := by
    have : a = 0 ∨ a = 1 := by omega
    show a * b < 26
    rcases this with rfl | rfl <;> omega
  obtain ⟨q, hq⟩ : ∃ q, faultT[a * b]? = some q := ⟨_, List.getElem?_eq_getElem hab⟩
  have hqm := List.mem_of_getElem? hq
  obtain ⟨aj, hj1, hj0, hj2⟩ := hv (a * b) (frow q) (by rw [List.getElem?_map, hq]; rfl)
  have hpo5 : ∃ o, Mine.upd G5 du (.lst (da.map AV.ref)) p = some o := by obtain ⟨o, ho⟩ := hP5.some; exact ⟨o, (upd_ne _ _ (Ne.symm hdp)).trans ho⟩
  obtain ⟨po5, hpo5⟩ := hpo5
  have k78 : Keep p H6 H8 := k7.trans k8
  have eab : ((a : Int) * (b : Int)) = ((a * b : Nat) : Int) := by simp
  rw [eab]
  have hab' : a * b < 26 := hab
  refine sub_lst (v := .ref aj) (k78 l _ (kp_ne hpo5 hl1) hl2) (by omega) (by omega) (by rw [Int.toNat_natCast, List.getElem?_map, hj1]; rfl) ?_ rfl
  refine ⟨aj, _, rfl, k78 aj _ (kp_ne hpo5 hj0) hj2, rfl, ?_⟩
  obtain ⟨f1, f2, f3, f4, f5, f6⟩ := fault_tab q hqm
  have k58 : Keep p (Mine.upd G5 du (.lst (da.map AV.ref))) H8 := Ext.keep x6 k78
  have hdu8 : H8 du = some (.lst (da.map AV.ref)) := k58 _ _ hdp (upd_same _ _ _)
  have hx8 : Ext (hid p G5) H8 := fun a o e => by
    obtain ⟨n1, e1⟩ := of_hid e
    exact k58 _ _ n1 ((upd_ne _ _ (fun z => by rw [z, hG5] at e1; cases e1)).trans e1)
  have hdd5 : Dens (hid p G5) (da.map AV.ref) (dueD 0 is) := Dens.ext k5.ext hD.dd
  walk_at "s"
  walk_at "v"
  walk_at "s"
  walk_at "v"
  rw [f1]
  refine ⟨_, rfl, fun hf => ?_, fun hf => ?_⟩
  · have hf' : q.2.1 ≠ "" := by simpa using hf
    walk_at "s"
    walk_at "v"
    refine ⟨.bi "list.append", trivial, m_append hdu8, ?_⟩
    walk_at "v"
    refine k_lenS (by rw [mk_len, List.length_append]; omega) ?_
    walk_at "v"
    rw [mk_len, nl_mk, contains_one]
    refine ⟨by simp, fun c hc => ?_⟩
    walk_at "v"
    have hcd : c ≠ du := fun z => by rw [z, hdu8] at hc; cases hc
    refine k_append ((upd_ne _ _ (Ne.symm hcd)).trans hdu8) (by rw [dens_len hdd5, due_len]; omega) ⟨rfl, ?_⟩
    walk_at "s"
    walk_at "v"
    rw [semi_row.2]
    refine i_cat (by rw [mk_len, mk_len, sizeLine_eq, List.length_append]; dsimp only [List.length]; omega) ?_
    rw [mk_app]
    walk_at "s"
    walk_at "v"
    refine k_lenS (by rw [mk_len, List.length_append, List.length_append]; dsimp only [List.length]; omega) ?_
    walk_at "v"
    walk_at "s"
    walk_at "v"
    rw [← mk_cpsS q.1]
    refine i_cat (by rw [mk_len, mk_len, sizeLine_eq, List.length_append, List.length_append]; dsimp only [List.length]; omega) ?_
    rw [mk_app]
    walk_at "s"
    have hc5 : hid p G5 c = none := ext_none hx8 hc
    have hdn5 : hid p G5 du = none := by unfold hid; rw [if_neg hdp]; exact hG5
    have xc := Ext.new (o := (AO.tup [AV.str (Str.ofString "op"), AV.str (Str.ofString ";"), AV.int (((tx is [] ++ g).length : Nat) + 1), AV.bool (decide (10 ∈ g))])) (Ext.refl (hid p G5)) hc5
    have hdd : Dens (seqs (Mine.upd (hid p G5) c (AO.tup [AV.str (Str.ofString "op"), AV.str (Str.ofString ";"), AV.int (((tx is [] ++ g).length : Nat) + 1), AV.bool (decide (10 ∈ g))]))) ((da ++ [c]).map AV.ref) (dueD 0 (is ++ [(⟨g ++ [32], cps ";", "op", .str (Str.ofString ";")⟩ : Item)])) := by
      refine Dens.seqs ?_
      rw [List.map_append, dueD_app]
      refine dens_app (Dens.ext xc hdd5) (.cons (.tup (upd_same _ _ _) (.cons (.str _) (.cons (.str _) (.cons (den_int ?_) (.cons (den_bool ?_) .nil))))) .nil)
      · rw [List.length_append, List.length_append]; simp; omega
      · simp
    have hbdu : seqs (Mine.upd (hid p G5) c (AO.tup [AV.str (Str.ofString "op"), AV.str (Str.ofString ";"), AV.int (((tx is [] ++ g).length : Nat) + 1), AV.bool (decide (10 ∈ g))])) du = none := seqs_none ((upd_ne _ _ (Ne.symm hcd)).trans hdn5)
    have hbx : Ext (seqs (Mine.upd (hid p G5) c (AO.tup [AV.str (Str.ofString "op"), AV.str (Str.ofString ";"), AV.int (((tx is [] ++ g).length : Nat) + 1), AV.bool (decide (10 ∈ g))]))) (Mine.upd (Mine.upd H8 c (AO.tup [AV.str (Str.ofString "op"), AV.str (Str.ofString ";"), AV.int (((tx is [] ++ g).length : Nat) + 1), AV.bool (decide (10 ∈ g))])) du (.lst (da.map AV.ref ++ [AV.ref c]))) := (seqs_ext _).trans fun a o e => by
      have had : a ≠ du := fun z => by rw [z, (upd_ne _ _ (Ne.symm hcd)).trans hdn5] at e; cases e
      rw [upd_ne _ _ had]
      by_cases z : a = c
      · subst z; rw [upd_same] at e ⊢; exact e
      · rw [upd_ne _ _ z] at e ⊢; exact hx8 _ _ e
    have hduc : (Mine.upd (Mine.upd H8 c (AO.tup [AV.str (Str.ofString "op"), AV.str (Str.ofString ";"), AV.int (((tx is [] ++ g).length : Nat) + 1), AV.bool (decide (10 ∈ g))])) du (.lst (da.map AV.ref ++ [AV.ref c]))) du = some (.lst ((da ++ [c]).map AV.ref)) := by rw [upd_same, List.map_append]; rfl
    have hTT : (mk (tx is [] ++ g ++ [32, 59, 32] ++ cps q.1)) = mk (tx (is ++ [(⟨g ++ [32], cps ";", "op", .str (Str.ofString ";")⟩ : Item)]) (32 :: cps q.1)) := by rw [tx_app, tx_cat is (tx _ _)]; simp [tx, semi_row.1]
    have hTl : ((mk (tx is [] ++ g ++ [32, 59, 32] ++ cps q.1))).length ≤ 100000 := by rw [mk_len, List.length_append, List.length_append, List.length_append]; dsimp only [List.length]; omega
    have hGood : Good (is ++ [(⟨g ++ [32], cps ";", "op", .str (Str.ofString ";")⟩ : Item)]) (32 :: cps q.1) := snoc_add hD.sn (gapp_app32 hg) semi_tok (fun Z => fol_must semi_tok (gapp_app32 hg) (fun _ => by simp)) _ (fol_32 _ _)
    have htz : tl (mk (tx is [] ++ g ++ [32, 59, 32] ++ cps q.1)) (tx (is ++ [(⟨g ++ [32], cps ";", "op", .str (Str.ofString ";")⟩ : Item)]) []).length = 32 :: cps q.1 := by have := tl_tx hTT (is ++ [(⟨g ++ [32], cps ";", "op", .str (Str.ofString ";")⟩ : Item)]).length; rw [List.take_length, List.drop_length] at this; exact this
    walk_at "s"
    walk_at "v"
    refine c_Lexer (by omega) fun x d ks H9 lx9 x9 => ?_
    have hdu9 := x9 _ _ hduc
    refine WpF.sub (l := locOf [("wide", .str _), ("fault", .str _), ("spot", .int _), ("lexer", .ref x), ("due", .ref du)]) (sub_of ⟨rfl, rfl, rfl, rfl, rfl, trivial⟩) (due_lem hdp0 hun lx9 hTT hTl hGood hdd hdu9 hbdu (hbx.trans x9) fun H nl lx => end_fault hdp0 hun lx hTl htz (f3 hf') f4 ?_ (r _ _))
    rw [tx_app, tx_cat is (tx _ _)]
    simp [tx, semi_row.1, mk_len]
    omega
  · have hf' : q.2.1 = "" := by simpa using hf
    have hfe : (Str.ofString q.2.1 != Str.ofString "") = false := by rw [f1]; simpa using hf'
    have hTT : mk (tx is [] ++ g) = mk (tx is g) := by rw [tx_cat is g]
    have hTl : (mk (tx is [] ++ g)).length ≤ 100000 := by rw [mk_len, List.length_append]; omega
    have hGood : Good is g := hD.sn g (by have := fol_gap (last := last) (Z := []) hg (fun _ => fol_nil last); rwa [List.append_nil] at this)
    have hduc := hdu8
    have hdd : Dens (seqs (hid p G5)) (da.map AV.ref) (dueD 0 is) := Dens.seqs hdd5
    have hbdu : seqs (hid p G5) du = none := seqs_none (by unfold hid; rw [if_neg hdp]; exact hG5)
    have hbx : Ext (seqs (hid p G5)) H8 := (seqs_ext _).trans hx8
    have htz : tl (mk (tx is [] ++ g)) (tx is []).length = g := by have := tl_tx hTT is.length; rw [List.take_length, List.drop_length] at this; exact this
    walk_at "s"
    walk_at "s"
    walk_at "v"
    refine c_Lexer (by omega) fun x d ks H9 lx9 x9 => ?_
    have hdu9 := x9 _ _ hduc
    refine WpF.sub (l := locOf [("wide", .str _), ("fault", .str _), ("spot", .int _), ("lexer", .ref x), ("due", .ref du)]) (sub_of ⟨rfl, rfl, rfl, rfl, rfl, trivial⟩) (due_lem hdp0 hun lx9 hTT hTl hGood hdd hdu9 hbdu (hbx.trans x9) fun H nl lx => end_plain hdp0 hun lx hTl htz (by rw [mk_len, List.length_append]) hg hfe f4 r)
end

section
variable {W : Wd} {fi : Fi} {dp un : Nat} {loc : Loc} {H : AH} {X : Xs}
theorem ss_run {body : List Stmt} {R : AF → Loc → AH → Prop} (h : WpSS W fi dp un loc H body R noX) {A A₀ : Around} {base h₀ : Heap} {outer : List Env} {L : Addr} {m : Str → Option Value} {s : Shared} {Q : Flow → Shared → Prop} {E : Value → Shared → Prop}
    (am : Amb W fi dp un A A₀ base h₀ outer L) (lr : LocR loc m) (hp : Hp W h₀ L m [] [] H s.heap)
    (hQ : ∀ f af loc' m' h' tk, R af loc' hNil → FlR af f → Fr h₀ L h' m' → Q f { s with heap := h', toks := tk }) (hR : ∀ f l H', R f l H' → R f l hNil) : wpAny (MD W) A (execs body (fi.env L)) Q E s :=
  h.run A A₀ base h₀ outer L m [] [] s Q E am lr hp (fun f af loc' m' H' led' h' tk r fr _ hp' => hQ f af loc' m' h' tk (hR _ _ _ r) fr hp'.fr) (fun m e k a h' tk hx => hx.elim)
end
theorem top_ : PySem.Challenge.rw_no0507_01.Holds := hd (by rfl) (by rfl) (by rfl) (by
  intro w s₀ s₁ mg mb G Y fa o pm cd doc dV kV ho hdd hcd hD hmg hg args vals as hpre hlay hrd hwl hlo
  have KX := kIn_of Y
  refine G.open ?_
  intro T B D TE TW
  obtain ⟨_, _, he, B0⟩ := based_of_top T rfl hmg ho hdd
  cases he
  wrow_args hpre hlay hrd hwl hlo
  refine enter_call ?_
  w_top on
  refine codeAny_mono ?_ fun _ _ g => GoodW.toG g
  have K0 := below_caller T.heap
  w_call any ho hdd hcd hD T F
  k_drop
  try k_fold
  rename_i ns hs hlay0 hLy hr hl2 as1 as2 scrA vals as3 hIs hra hw hr0 hInts hrW hc1 hc2 h1 N
  dsimp only
  refine' ss_run (W := ⟨_, _, _, _, scrA, vals⟩) (fi := ⟨Str.ofString "law", _, _, _⟩) (dp := 305) (un := 300) (loc := locOf [("script", .ref scrA)]) (H := hNil) (R := fun fl _ _ => fl = .ret (.bool true)) (outer := []) (A₀ := callerA) ?walk ?am ?lr ?hp ?hQ ?hR
  case hp => exact ⟨F, N, List.Pairwise.nil, fun a o q => (nomatch q), fun p hpp => (nomatch hpp)⟩
  case am => exact {
    handled := rfl
    frames := rfl
    depth := Nat.le_of_ble_eq_true rfl
    units := Nat.le_of_ble_eq_true rfl
    below := K0
    K := by assumption
    T := by assumption
    scr := hIs
    kind := rfl
    top := fun _ => rfl }
  case lr =>
    intro y av e
    unfold locOf at e
    rw [List.reverse_singleton, List.lookup_cons] at e
    split at e
    · rename_i q
      cases e
      rw [str_beq, decide_eq_true_eq] at q
      subst q
      exact ⟨.ref scrA, rfl, rfl⟩
    · cases e
  case hR => exact fun _ _ _ h => h
  case hQ =>
    rintro f af loc' m' h' tk rfl ⟨v, rfl, rfl⟩ FF
    dsimp only
    refine goodW_bool FF (by assumption) (raisesW_false ?_) ?_
    · wrow_none_raised
    · wrow_post
  case walk =>
    have hlenV : vals.length ≤ 1000 := by have := IntsAre.length hInts; omega
    walk_at "s"
    walk_at "v"
    refine c_pool (by omega) (ints_from hInts) hlenV fun p F H1 hP1 x1 hp0 => ?_
    walk_at "s"
    walk_at "v"
    rw [lit_emp]
    walk_at "s"
    walk_at "v"
    refine ⟨by simp, fun du hdu => ?_⟩
    obtain ⟨po, hpo⟩ := hP1.some
    obtain ⟨fo, hfo⟩ := hP1.fig
    walk_at "s"
    walk_at "v"
    refine ss_forJ (σ := List Item × List Addr × String × AH) (τ := List Item × List Addr × String × AH) (fun st => Dr p F du st.1 st.2.1 st.2.2.1 st.2.2.2 ∧ st.1.length ≤ 8 ∧ (tx st.1 []).length ≤ 100 * 8) (fun st => [("pool", .ref p), ("wide", .str (mk (tx st.1 []))), ("due", .ref du)]) (fun st => Mine.upd st.2.2.2 du (.lst (st.2.1.map AV.ref))) rfl (fun _ _ => rfl) ?_ ?_
    · walk_at "v"
      refine Call_OK.frame (R' := fun v G' => ∃ n : Nat, v = .int n ∧ (n : Int) < 8 ∧ Pl G' p F) hdu (c_pick (by omega) (by decide) hP1 fun n hn G' hP' _ => ⟨n, rfl, hn, hP'⟩) fun v G' hr hG2 => ?_
      obtain ⟨n, rfl, hn, hP2⟩ := hr
      walk_at "v"
      refine k_range fun rg hrg => ?_
      refine ⟨_, _, fun k (st : List Item × List Addr × String × AH) => Dr p F du st.1 st.2.1 st.2.2.1 st.2.2.2 ∧ st.1.length ≤ k ∧ (tx st.1 []).length ≤ 100 * k, fun st => [("pool", .ref p), ("wide", .str (mk (tx st.1 []))), ("due", .ref du), ("last", .str (Str.ofString st.2.2.1))], fun st => Mine.upd st.2.2.2 du (.lst (st.2.1.map AV.ref)), ([], [], "", G'), .inr (.inl ⟨rg, 1 + n, rfl, upd_same _ _ _, by omega, by omega, rfl, rfl⟩), ⟨⟨snoc_nil, (by decide : "" ∈ lastT), hP2, hG2, .nil⟩, Nat.le_refl 0, Nat.le_refl 0⟩, ⟨rfl, rfl, rfl, rfl, trivial⟩, Ext.new (Ext.refl _) hrg, ?_, ?_⟩
      · rintro k ⟨is, da, last, G⟩ av ⟨hD, i2, i3⟩ hav
        have hk : k < (1 + (n : Int)).toNat := by
          have := (List.getElem?_eq_some_iff.mp hav).1
          simpa using this
        dsimp only at hD i2 i3
        exact draw_step (by omega) hD i2 i3 (by omega) fun is' da' last' G' loc2 H3 a b c d e => ⟨(is', da', last', G'), ⟨a, b, c⟩, d, e⟩
      · rintro ⟨is, da, last, G⟩ ⟨hD, i2, i3⟩
        rw [List.length_map, List.length_range] at i2 i3
        dsimp only at i2 i3
        exact ⟨(is, da, last, G), ⟨hD, by dsimp only; omega, by dsimp only; omega⟩, ⟨rfl, rfl, rfl, trivial⟩, Ext.refl _⟩
    · rintro ⟨is, da, last, G⟩ ⟨hD, i2, i3⟩
      dsimp only at hD i2 i3
      exact law_tail (by omega) (by omega) hD i2 i3 fun _ _ => rfl)

end Mine
theorem PySem.Challenge.cw_no0507_01_holds : PySem.Challenge.rw_no0507_01.Holds := by
  exact Mine.top_
