import PyProof.Rows.All
import Wide.All
import OpenK.AllK
import Wide.FinOn
import PySem.Challenge.RW_rh0003_01
set_option Elab.async false
set_option maxRecDepth 100000
set_option maxHeartbeats 8000000
set_option linter.unusedVariables false
set_option linter.unusedSimpArgs false

namespace Mine
section
open PySem PySem.W PyProof.Rows
-- the part of the heap that the proof reads: a def's parameters, body and scope are taken out of the given program by place
noncomputable def hd.nth (i : Nat) : Stmt := (PySem.Challenge.pw_rh0003_01.main.body[i]?).getD (.Pass ⟨0, 0, 0, 0⟩)
noncomputable def hd.inth (i j : Nat) : Stmt := match hd.nth i with
  | .ClassDef _ _ _ b _ _ _ _ _ _ _ => (b[j]?).getD (.Pass ⟨0, 0, 0, 0⟩)
  | s => s
noncomputable def hd.fdef (s : Stmt) : Arguments × List Stmt × Scope := match s with
  | .FunctionDef _ a b _ _ _ sc _ _ _ => (a, b, sc)
  | _ => ({ posonlyargs := [], args := [], vararg := none, kwonlyargs := [], kw_defaults := [], kwarg := none, defaults := [] }, [], default)
noncomputable abbrev hd.pa21 : Arguments := (⟨_, by conv => { lhs; whnf }⟩ : { x : Arguments // (hd.fdef (hd.nth 0)).1 = x }).1
noncomputable abbrev hd.bo21 : List Stmt := (⟨_, by conv => { lhs; whnf }⟩ : { x : List Stmt // (hd.fdef (hd.nth 0)).2.1 = x }).1
noncomputable abbrev hd.sc21 : Scope := (⟨_, by conv => { lhs; whnf }⟩ : { x : Scope // (hd.fdef (hd.nth 0)).2.2 = x }).1
noncomputable abbrev hd.pa37 : Arguments := (⟨_, by conv => { lhs; whnf }⟩ : { x : Arguments // (hd.fdef (hd.inth 2 0)).1 = x }).1
noncomputable abbrev hd.bo37 : List Stmt := (⟨_, by conv => { lhs; whnf }⟩ : { x : List Stmt // (hd.fdef (hd.inth 2 0)).2.1 = x }).1
noncomputable abbrev hd.sc37 : Scope := (⟨_, by conv => { lhs; whnf }⟩ : { x : Scope // (hd.fdef (hd.inth 2 0)).2.2 = x }).1
noncomputable abbrev hd.pa44 : Arguments := (⟨_, by conv => { lhs; whnf }⟩ : { x : Arguments // (hd.fdef (hd.inth 2 1)).1 = x }).1
noncomputable abbrev hd.bo44 : List Stmt := (⟨_, by conv => { lhs; whnf }⟩ : { x : List Stmt // (hd.fdef (hd.inth 2 1)).2.1 = x }).1
noncomputable abbrev hd.sc44 : Scope := (⟨_, by conv => { lhs; whnf }⟩ : { x : Scope // (hd.fdef (hd.inth 2 1)).2.2 = x }).1
noncomputable abbrev hd.pa66 : Arguments := (⟨_, by conv => { lhs; whnf }⟩ : { x : Arguments // (hd.fdef (hd.inth 3 0)).1 = x }).1
noncomputable abbrev hd.bo66 : List Stmt := (⟨_, by conv => { lhs; whnf }⟩ : { x : List Stmt // (hd.fdef (hd.inth 3 0)).2.1 = x }).1
noncomputable abbrev hd.sc66 : Scope := (⟨_, by conv => { lhs; whnf }⟩ : { x : Scope // (hd.fdef (hd.inth 3 0)).2.2 = x }).1
noncomputable abbrev hd.pa73 : Arguments := (⟨_, by conv => { lhs; whnf }⟩ : { x : Arguments // (hd.fdef (hd.inth 3 1)).1 = x }).1
noncomputable abbrev hd.bo73 : List Stmt := (⟨_, by conv => { lhs; whnf }⟩ : { x : List Stmt // (hd.fdef (hd.inth 3 1)).2.1 = x }).1
noncomputable abbrev hd.sc73 : Scope := (⟨_, by conv => { lhs; whnf }⟩ : { x : Scope // (hd.fdef (hd.inth 3 1)).2.2 = x }).1
noncomputable abbrev hd.pa95 : Arguments := (⟨_, by conv => { lhs; whnf }⟩ : { x : Arguments // (hd.fdef (hd.nth 6)).1 = x }).1
noncomputable abbrev hd.bo95 : List Stmt := (⟨_, by conv => { lhs; whnf }⟩ : { x : List Stmt // (hd.fdef (hd.nth 6)).2.1 = x }).1
noncomputable abbrev hd.sc95 : Scope := (⟨_, by conv => { lhs; whnf }⟩ : { x : Scope // (hd.fdef (hd.nth 6)).2.2 = x }).1
noncomputable abbrev hd.pa102 : Arguments := (⟨_, by conv => { lhs; whnf }⟩ : { x : Arguments // (hd.fdef (hd.nth 7)).1 = x }).1
noncomputable abbrev hd.bo102 : List Stmt := (⟨_, by conv => { lhs; whnf }⟩ : { x : List Stmt // (hd.fdef (hd.nth 7)).2.1 = x }).1
noncomputable abbrev hd.sc102 : Scope := (⟨_, by conv => { lhs; whnf }⟩ : { x : Scope // (hd.fdef (hd.nth 7)).2.2 = x }).1
noncomputable abbrev hd.pa107 : Arguments := (⟨_, by conv => { lhs; whnf }⟩ : { x : Arguments // (hd.fdef (hd.nth 8)).1 = x }).1
noncomputable abbrev hd.bo107 : List Stmt := (⟨_, by conv => { lhs; whnf }⟩ : { x : List Stmt // (hd.fdef (hd.nth 8)).2.1 = x }).1
noncomputable abbrev hd.sc107 : Scope := (⟨_, by conv => { lhs; whnf }⟩ : { x : Scope // (hd.fdef (hd.nth 8)).2.2 = x }).1
noncomputable abbrev hd.pa112 : Arguments := (⟨_, by conv => { lhs; whnf }⟩ : { x : Arguments // (hd.fdef (hd.nth 9)).1 = x }).1
noncomputable abbrev hd.bo112 : List Stmt := (⟨_, by conv => { lhs; whnf }⟩ : { x : List Stmt // (hd.fdef (hd.nth 9)).2.1 = x }).1
noncomputable abbrev hd.sc112 : Scope := (⟨_, by conv => { lhs; whnf }⟩ : { x : Scope // (hd.fdef (hd.nth 9)).2.2 = x }).1
noncomputable abbrev hd.pa124 : Arguments := (⟨_, by conv => { lhs; whnf }⟩ : { x : Arguments // (hd.fdef (hd.inth 11 0)).1 = x }).1
noncomputable abbrev hd.bo124 : List Stmt := (⟨_, by conv => { lhs; whnf }⟩ : { x : List Stmt // (hd.fdef (hd.inth 11 0)).2.1 = x }).1
noncomputable abbrev hd.sc124 : Scope := (⟨_, by conv => { lhs; whnf }⟩ : { x : Scope // (hd.fdef (hd.inth 11 0)).2.2 = x }).1
noncomputable abbrev hd.pa131 : Arguments := (⟨_, by conv => { lhs; whnf }⟩ : { x : Arguments // (hd.fdef (hd.inth 11 1)).1 = x }).1
noncomputable abbrev hd.bo131 : List Stmt := (⟨_, by conv => { lhs; whnf }⟩ : { x : List Stmt // (hd.fdef (hd.inth 11 1)).2.1 = x }).1
noncomputable abbrev hd.sc131 : Scope := (⟨_, by conv => { lhs; whnf }⟩ : { x : Scope // (hd.fdef (hd.inth 11 1)).2.2 = x }).1
noncomputable abbrev hd.pa145 : Arguments := (⟨_, by conv => { lhs; whnf }⟩ : { x : Arguments // (hd.fdef (hd.nth 15)).1 = x }).1
noncomputable abbrev hd.bo145 : List Stmt := (⟨_, by conv => { lhs; whnf }⟩ : { x : List Stmt // (hd.fdef (hd.nth 15)).2.1 = x }).1
noncomputable abbrev hd.sc145 : Scope := (⟨_, by conv => { lhs; whnf }⟩ : { x : Scope // (hd.fdef (hd.nth 15)).2.2 = x }).1
noncomputable abbrev hd.pa159 : Arguments := (⟨_, by conv => { lhs; whnf }⟩ : { x : Arguments // (hd.fdef (hd.inth 16 0)).1 = x }).1
noncomputable abbrev hd.bo159 : List Stmt := (⟨_, by conv => { lhs; whnf }⟩ : { x : List Stmt // (hd.fdef (hd.inth 16 0)).2.1 = x }).1
noncomputable abbrev hd.sc159 : Scope := (⟨_, by conv => { lhs; whnf }⟩ : { x : Scope // (hd.fdef (hd.inth 16 0)).2.2 = x }).1
noncomputable abbrev hd.pa166 : Arguments := (⟨_, by conv => { lhs; whnf }⟩ : { x : Arguments // (hd.fdef (hd.inth 16 1)).1 = x }).1
noncomputable abbrev hd.bo166 : List Stmt := (⟨_, by conv => { lhs; whnf }⟩ : { x : List Stmt // (hd.fdef (hd.inth 16 1)).2.1 = x }).1
noncomputable abbrev hd.sc166 : Scope := (⟨_, by conv => { lhs; whnf }⟩ : { x : Scope // (hd.fdef (hd.inth 16 1)).2.2 = x }).1
noncomputable abbrev hd.pa173 : Arguments := (⟨_, by conv => { lhs; whnf }⟩ : { x : Arguments // (hd.fdef (hd.inth 16 2)).1 = x }).1
noncomputable abbrev hd.bo173 : List Stmt := (⟨_, by conv => { lhs; whnf }⟩ : { x : List Stmt // (hd.fdef (hd.inth 16 2)).2.1 = x }).1
noncomputable abbrev hd.sc173 : Scope := (⟨_, by conv => { lhs; whnf }⟩ : { x : Scope // (hd.fdef (hd.inth 16 2)).2.2 = x }).1
noncomputable abbrev hd.pa180 : Arguments := (⟨_, by conv => { lhs; whnf }⟩ : { x : Arguments // (hd.fdef (hd.inth 16 3)).1 = x }).1
noncomputable abbrev hd.bo180 : List Stmt := (⟨_, by conv => { lhs; whnf }⟩ : { x : List Stmt // (hd.fdef (hd.inth 16 3)).2.1 = x }).1
noncomputable abbrev hd.sc180 : Scope := (⟨_, by conv => { lhs; whnf }⟩ : { x : Scope // (hd.fdef (hd.inth 16 3)).2.2 = x }).1
noncomputable abbrev hd.pa187 : Arguments := (⟨_, by conv => { lhs; whnf }⟩ : { x : Arguments // (hd.fdef (hd.inth 16 4)).1 = x }).1
noncomputable abbrev hd.bo187 : List Stmt := (⟨_, by conv => { lhs; whnf }⟩ : { x : List Stmt // (hd.fdef (hd.inth 16 4)).2.1 = x }).1
noncomputable abbrev hd.sc187 : Scope := (⟨_, by conv => { lhs; whnf }⟩ : { x : Scope // (hd.fdef (hd.inth 16 4)).2.2 = x }).1
noncomputable abbrev hd.pa194 : Arguments := (⟨_, by conv => { lhs; whnf }⟩ : { x : Arguments // (hd.fdef (hd.inth 16 5)).1 = x }).1
noncomputable abbrev hd.bo194 : List Stmt := (⟨_, by conv => { lhs; whnf }⟩ : { x : List Stmt // (hd.fdef (hd.inth 16 5)).2.1 = x }).1
noncomputable abbrev hd.sc194 : Scope := (⟨_, by conv => { lhs; whnf }⟩ : { x : Scope // (hd.fdef (hd.inth 16 5)).2.2 = x }).1
noncomputable abbrev hd.pa201 : Arguments := (⟨_, by conv => { lhs; whnf }⟩ : { x : Arguments // (hd.fdef (hd.inth 16 6)).1 = x }).1
noncomputable abbrev hd.bo201 : List Stmt := (⟨_, by conv => { lhs; whnf }⟩ : { x : List Stmt // (hd.fdef (hd.inth 16 6)).2.1 = x }).1
noncomputable abbrev hd.sc201 : Scope := (⟨_, by conv => { lhs; whnf }⟩ : { x : Scope // (hd.fdef (hd.inth 16 6)).2.2 = x }).1
noncomputable abbrev hd.pa208 : Arguments := (⟨_, by conv => { lhs; whnf }⟩ : { x : Arguments // (hd.fdef (hd.inth 16 7)).1 = x }).1
noncomputable abbrev hd.bo208 : List Stmt := (⟨_, by conv => { lhs; whnf }⟩ : { x : List Stmt // (hd.fdef (hd.inth 16 7)).2.1 = x }).1
noncomputable abbrev hd.sc208 : Scope := (⟨_, by conv => { lhs; whnf }⟩ : { x : Scope // (hd.fdef (hd.inth 16 7)).2.2 = x }).1
noncomputable abbrev hd.pa215 : Arguments := (⟨_, by conv => { lhs; whnf }⟩ : { x : Arguments // (hd.fdef (hd.inth 16 8)).1 = x }).1
noncomputable abbrev hd.bo215 : List Stmt := (⟨_, by conv => { lhs; whnf }⟩ : { x : List Stmt // (hd.fdef (hd.inth 16 8)).2.1 = x }).1
noncomputable abbrev hd.sc215 : Scope := (⟨_, by conv => { lhs; whnf }⟩ : { x : Scope // (hd.fdef (hd.inth 16 8)).2.2 = x }).1
noncomputable abbrev hd.pa222 : Arguments := (⟨_, by conv => { lhs; whnf }⟩ : { x : Arguments // (hd.fdef (hd.inth 16 9)).1 = x }).1
noncomputable abbrev hd.bo222 : List Stmt := (⟨_, by conv => { lhs; whnf }⟩ : { x : List Stmt // (hd.fdef (hd.inth 16 9)).2.1 = x }).1
noncomputable abbrev hd.sc222 : Scope := (⟨_, by conv => { lhs; whnf }⟩ : { x : Scope // (hd.fdef (hd.inth 16 9)).2.2 = x }).1
noncomputable abbrev hd.pa229 : Arguments := (⟨_, by conv => { lhs; whnf }⟩ : { x : Arguments // (hd.fdef (hd.inth 16 10)).1 = x }).1
noncomputable abbrev hd.bo229 : List Stmt := (⟨_, by conv => { lhs; whnf }⟩ : { x : List Stmt // (hd.fdef (hd.inth 16 10)).2.1 = x }).1
noncomputable abbrev hd.sc229 : Scope := (⟨_, by conv => { lhs; whnf }⟩ : { x : Scope // (hd.fdef (hd.inth 16 10)).2.2 = x }).1
noncomputable abbrev hd.pa236 : Arguments := (⟨_, by conv => { lhs; whnf }⟩ : { x : Arguments // (hd.fdef (hd.inth 16 11)).1 = x }).1
noncomputable abbrev hd.bo236 : List Stmt := (⟨_, by conv => { lhs; whnf }⟩ : { x : List Stmt // (hd.fdef (hd.inth 16 11)).2.1 = x }).1
noncomputable abbrev hd.sc236 : Scope := (⟨_, by conv => { lhs; whnf }⟩ : { x : Scope // (hd.fdef (hd.inth 16 11)).2.2 = x }).1
noncomputable abbrev hd.pa241 : Arguments := (⟨_, by conv => { lhs; whnf }⟩ : { x : Arguments // (hd.fdef (hd.inth 16 12)).1 = x }).1
noncomputable abbrev hd.bo241 : List Stmt := (⟨_, by conv => { lhs; whnf }⟩ : { x : List Stmt // (hd.fdef (hd.inth 16 12)).2.1 = x }).1
noncomputable abbrev hd.sc241 : Scope := (⟨_, by conv => { lhs; whnf }⟩ : { x : Scope // (hd.fdef (hd.inth 16 12)).2.2 = x }).1
noncomputable abbrev hd.pa248 : Arguments := (⟨_, by conv => { lhs; whnf }⟩ : { x : Arguments // (hd.fdef (hd.inth 16 13)).1 = x }).1
noncomputable abbrev hd.bo248 : List Stmt := (⟨_, by conv => { lhs; whnf }⟩ : { x : List Stmt // (hd.fdef (hd.inth 16 13)).2.1 = x }).1
noncomputable abbrev hd.sc248 : Scope := (⟨_, by conv => { lhs; whnf }⟩ : { x : Scope // (hd.fdef (hd.inth 16 13)).2.2 = x }).1
noncomputable abbrev hd.pa255 : Arguments := (⟨_, by conv => { lhs; whnf }⟩ : { x : Arguments // (hd.fdef (hd.inth 16 14)).1 = x }).1
noncomputable abbrev hd.bo255 : List Stmt := (⟨_, by conv => { lhs; whnf }⟩ : { x : List Stmt // (hd.fdef (hd.inth 16 14)).2.1 = x }).1
noncomputable abbrev hd.sc255 : Scope := (⟨_, by conv => { lhs; whnf }⟩ : { x : Scope // (hd.fdef (hd.inth 16 14)).2.2 = x }).1
noncomputable abbrev hd.pa278 : Arguments := (⟨_, by conv => { lhs; whnf }⟩ : { x : Arguments // (hd.fdef (hd.nth 21)).1 = x }).1
noncomputable abbrev hd.bo278 : List Stmt := (⟨_, by conv => { lhs; whnf }⟩ : { x : List Stmt // (hd.fdef (hd.nth 21)).2.1 = x }).1
noncomputable abbrev hd.sc278 : Scope := (⟨_, by conv => { lhs; whnf }⟩ : { x : Scope // (hd.fdef (hd.nth 21)).2.2 = x }).1
noncomputable abbrev hd.pa285 : Arguments := (⟨_, by conv => { lhs; whnf }⟩ : { x : Arguments // (hd.fdef (hd.nth 22)).1 = x }).1
noncomputable abbrev hd.bo285 : List Stmt := (⟨_, by conv => { lhs; whnf }⟩ : { x : List Stmt // (hd.fdef (hd.nth 22)).2.1 = x }).1
noncomputable abbrev hd.sc285 : Scope := (⟨_, by conv => { lhs; whnf }⟩ : { x : Scope // (hd.fdef (hd.nth 22)).2.2 = x }).1
noncomputable abbrev hd.pa292 : Arguments := (⟨_, by conv => { lhs; whnf }⟩ : { x : Arguments // (hd.fdef (hd.nth 23)).1 = x }).1
noncomputable abbrev hd.bo292 : List Stmt := (⟨_, by conv => { lhs; whnf }⟩ : { x : List Stmt // (hd.fdef (hd.nth 23)).2.1 = x }).1
noncomputable abbrev hd.sc292 : Scope := (⟨_, by conv => { lhs; whnf }⟩ : { x : Scope // (hd.fdef (hd.nth 23)).2.2 = x }).1
noncomputable abbrev hd.pa299 : Arguments := (⟨_, by conv => { lhs; whnf }⟩ : { x : Arguments // (hd.fdef (hd.nth 24)).1 = x }).1
noncomputable abbrev hd.bo299 : List Stmt := (⟨_, by conv => { lhs; whnf }⟩ : { x : List Stmt // (hd.fdef (hd.nth 24)).2.1 = x }).1
noncomputable abbrev hd.sc299 : Scope := (⟨_, by conv => { lhs; whnf }⟩ : { x : Scope // (hd.fdef (hd.nth 24)).2.2 = x }).1
noncomputable abbrev hd.pa306 : Arguments := (⟨_, by conv => { lhs; whnf }⟩ : { x : Arguments // (hd.fdef (hd.nth 25)).1 = x }).1
noncomputable abbrev hd.bo306 : List Stmt := (⟨_, by conv => { lhs; whnf }⟩ : { x : List Stmt // (hd.fdef (hd.nth 25)).2.1 = x }).1
noncomputable abbrev hd.sc306 : Scope := (⟨_, by conv => { lhs; whnf }⟩ : { x : Scope // (hd.fdef (hd.nth 25)).2.2 = x }).1
noncomputable abbrev hd.pa313 : Arguments := (⟨_, by conv => { lhs; whnf }⟩ : { x : Arguments // (hd.fdef (hd.nth 26)).1 = x }).1
noncomputable abbrev hd.bo313 : List Stmt := (⟨_, by conv => { lhs; whnf }⟩ : { x : List Stmt // (hd.fdef (hd.nth 26)).2.1 = x }).1
noncomputable abbrev hd.sc313 : Scope := (⟨_, by conv => { lhs; whnf }⟩ : { x : Scope // (hd.fdef (hd.nth 26)).2.2 = x }).1
noncomputable abbrev hd.pa320 : Arguments := (⟨_, by conv => { lhs; whnf }⟩ : { x : Arguments // (hd.fdef (hd.nth 27)).1 = x }).1
noncomputable abbrev hd.bo320 : List Stmt := (⟨_, by conv => { lhs; whnf }⟩ : { x : List Stmt // (hd.fdef (hd.nth 27)).2.1 = x }).1
noncomputable abbrev hd.sc320 : Scope := (⟨_, by conv => { lhs; whnf }⟩ : { x : Scope // (hd.fdef (hd.nth 27)).2.2 = x }).1
noncomputable abbrev hd.pa325 : Arguments := (⟨_, by conv => { lhs; whnf }⟩ : { x : Arguments // (hd.fdef (hd.nth 28)).1 = x }).1
noncomputable abbrev hd.bo325 : List Stmt := (⟨_, by conv => { lhs; whnf }⟩ : { x : List Stmt // (hd.fdef (hd.nth 28)).2.1 = x }).1
noncomputable abbrev hd.sc325 : Scope := (⟨_, by conv => { lhs; whnf }⟩ : { x : Scope // (hd.fdef (hd.nth 28)).2.2 = x }).1
noncomputable abbrev hd.pa330 : Arguments := (⟨_, by conv => { lhs; whnf }⟩ : { x : Arguments // (hd.fdef (hd.nth 29)).1 = x }).1
noncomputable abbrev hd.bo330 : List Stmt := (⟨_, by conv => { lhs; whnf }⟩ : { x : List Stmt // (hd.fdef (hd.nth 29)).2.1 = x }).1
noncomputable abbrev hd.sc330 : Scope := (⟨_, by conv => { lhs; whnf }⟩ : { x : Scope // (hd.fdef (hd.nth 29)).2.2 = x }).1
noncomputable abbrev hd.pa337 : Arguments := (⟨_, by conv => { lhs; whnf }⟩ : { x : Arguments // (hd.fdef (hd.nth 30)).1 = x }).1
noncomputable abbrev hd.bo337 : List Stmt := (⟨_, by conv => { lhs; whnf }⟩ : { x : List Stmt // (hd.fdef (hd.nth 30)).2.1 = x }).1
noncomputable abbrev hd.sc337 : Scope := (⟨_, by conv => { lhs; whnf }⟩ : { x : Scope // (hd.fdef (hd.nth 30)).2.2 = x }).1
noncomputable abbrev hd.pa342 : Arguments := (⟨_, by conv => { lhs; whnf }⟩ : { x : Arguments // (hd.fdef (hd.nth 31)).1 = x }).1
noncomputable abbrev hd.bo342 : List Stmt := (⟨_, by conv => { lhs; whnf }⟩ : { x : List Stmt // (hd.fdef (hd.nth 31)).2.1 = x }).1
noncomputable abbrev hd.sc342 : Scope := (⟨_, by conv => { lhs; whnf }⟩ : { x : Scope // (hd.fdef (hd.nth 31)).2.2 = x }).1
noncomputable def hd.heap_39 : Params → Frag := fun P =>
  (nat_lit 2, { cls := Value.none, data := Data.dict #[{ hash := PyData.keyHash P (Str.ofString "type.__subclasses__.Exception.0"), key := Value.str (Str.ofString "type.__subclasses__.Exception.0") 230, val := Value.int 47 0 }, { hash := PyData.keyHash P (Str.ofString "type.__subclasses__.Exception.n"), key := Value.str (Str.ofString "type.__subclasses__.Exception.n") 231, val := Value.int 1 0 }] 2 }) ::
  (nat_lit 3, { cls := Value.type "dict", data := Data.dict #[{ hash := PyData.keyHash P (Str.ofString "__name__"), key := Value.str (Str.ofString "__name__") 165, val := Value.str (Str.ofString "law_rh0003_01") 510 }, { hash := PyData.keyHash P (Str.ofString "__doc__"), key := Value.str (Str.ofString "__doc__") 166, val := Value.none }, { hash := PyData.keyHash P (Str.ofString "__package__"), key := Value.str (Str.ofString "__package__") 167, val := Value.none }, { hash := PyData.keyHash P (Str.ofString "__loader__"), key := Value.str (Str.ofString "__loader__") 168, val := Value.builtin "__main__.__loader__#opaque" }, { hash := PyData.keyHash P (Str.ofString "__spec__"), key := Value.str (Str.ofString "__spec__") 169, val := Value.none }, { hash := PyData.keyHash P (Str.ofString "__annotations__"), key := Value.str (Str.ofString "__annotations__") 170, val := Value.ref 6 }, { hash := PyData.keyHash P (Str.ofString "__builtins__"), key := Value.str (Str.ofString "__builtins__") 171, val := Value.ref 4 }, { hash := PyData.keyHash P (Str.ofString "__file__"), key := Value.str (Str.ofString "__file__") 173, val := Value.str (Str.ofString "/claim/cut.py") 172 }, { hash := PyData.keyHash P (Str.ofString "__cached__"), key := Value.str (Str.ofString "__cached__") 174, val := Value.none }, { hash := PyData.keyHash P (Str.ofString "_wall"), key := Value.str (Str.ofString "_wall") 193, val := Value.ref 21 }, { hash := PyData.keyHash P (Str.ofString "HeapError"), key := Value.str (Str.ofString "HeapError") 233, val := Value.ref 47 }, { hash := PyData.keyHash P (Str.ofString "TextFault"), key := Value.str (Str.ofString "TextFault") 268, val := Value.ref 76 }, { hash := PyData.keyHash P (Str.ofString "RuleFault"), key := Value.str (Str.ofString "RuleFault") 284, val := Value.ref 88 }, { hash := PyData.keyHash P (Str.ofString "is_op"), key := Value.str (Str.ofString "is_op") 292, val := Value.ref 95 }, { hash := PyData.keyHash P (Str.ofString "is_variable"), key := Value.str (Str.ofString "is_variable") 299, val := Value.ref 102 }, { hash := PyData.keyHash P (Str.ofString "variables"), key := Value.str (Str.ofString "variables") 305, val := Value.ref 107 }, { hash := PyData.keyHash P (Str.ofString "parts"), key := Value.str (Str.ofString "parts") 311, val := Value.ref 112 }, { hash := PyData.keyHash P (Str.ofString "Rule"), key := Value.str (Str.ofString "Rule") 350, val := Value.ref 134 }, { hash := PyData.keyHash P (Str.ofString "MOST_DEPTH"), key := Value.str (Str.ofString "MOST_DEPTH") 354, val := Value.int 40 353 }, { hash := PyData.keyHash P (Str.ofString "MOST_SIGNS"), key := Value.str (Str.ofString "MOST_SIGNS") 356, val := Value.int 100000 355 }, { hash := PyData.keyHash P (Str.ofString "words_of"), key := Value.str (Str.ofString "words_of") 366, val := Value.ref 145 }, { hash := PyData.keyHash P (Str.ofString "Reader"), key := Value.str (Str.ofString "Reader") 509, val := Value.ref 258 }, { hash := PyData.keyHash P (Str.ofString "_law_signs"), key := Value.str (Str.ofString "_law_signs") 517, val := Value.ref 263 }, { hash := PyData.keyHash P (Str.ofString "_law_other"), key := Value.str (Str.ofString "_law_other") 531, val := Value.ref 264 }, { hash := PyData.keyHash P (Str.ofString "_law_next"), key := Value.str (Str.ofString "_law_next") 557, val := Value.ref 265 }, { hash := PyData.keyHash P (Str.ofString "_law_pick"), key := Value.str (Str.ofString "_law_pick") 566, val := Value.ref 278 }, { hash := PyData.keyHash P (Str.ofString "_law_term"), key := Value.str (Str.ofString "_law_term") 577, val := Value.ref 285 }, { hash := PyData.keyHash P (Str.ofString "_law_paper"), key := Value.str (Str.ofString "_law_paper") 589, val := Value.ref 292 }, { hash := PyData.keyHash P (Str.ofString "_law_bent"), key := Value.str (Str.ofString "_law_bent") 599, val := Value.ref 299 }, { hash := PyData.keyHash P (Str.ofString "_law_laid"), key := Value.str (Str.ofString "_law_laid") 612, val := Value.ref 306 }, { hash := PyData.keyHash P (Str.ofString "_law_gone"), key := Value.str (Str.ofString "_law_gone") 626, val := Value.ref 313 }, { hash := PyData.keyHash P (Str.ofString "_law_piled"), key := Value.str (Str.ofString "_law_piled") 636, val := Value.ref 320 }, { hash := PyData.keyHash P (Str.ofString "_law_term_of"), key := Value.str (Str.ofString "_law_term_of") 642, val := Value.ref 325 }, { hash := PyData.keyHash P (Str.ofString "_law_paper_of"), key := Value.str (Str.ofString "_law_paper_of") 648, val := Value.ref 330 }, { hash := PyData.keyHash P (Str.ofString "_law_is_read"), key := Value.str (Str.ofString "_law_is_read") 662, val := Value.ref 337 }, { hash := PyData.keyHash P (Str.ofString "law"), key := Value.str (Str.ofString "law") 668, val := Value.ref 342 }] 36 }) ::
  (nat_lit 15, { cls := Value.type "tuple", data := Data.seq #[] }) ::
  (nat_lit 17, { cls := Value.type "tuple", data := Data.seq #[Value.str (Str.ofString "k") 190] }) ::
  (nat_lit 18, { cls := Value.type "tuple", data := Data.seq #[] }) ::
  (nat_lit 20, { cls := Value.type "code", data := Data.fields #[Value.str (Str.ofString "_wall") 187, Value.str (Str.ofString "_wall") 188, Value.str (Str.ofString "/claim/cut.py") 189, Value.int 1 0, Value.int 1 0, Value.int 0 0, Value.int 0 0, Value.int 3 0, Value.ref 15, Value.bool true, Value.int 181 0, Value.ref 16, Value.none, Value.ref 17, Value.ref 18, Value.ref 19, Value.int 191 0, Value.int 1 0, Value.str (Str.ofString "/claim/cut.py") 192] }) ::
  (nat_lit 21, { cls := Value.type "function", data := Data.func { name := Str.ofString "_wall", qualname := Str.ofString "_wall", params := hd.pa21, body := FuncBody.stmts hd.bo21, scope := hd.sc21, globals := 3, closure := [], defaults := Value.none, kwdefaults := Value.none, pyModule := Value.str (Str.ofString "__main__") 164, code := Value.ref 20 } }) ::
  (nat_lit 22, { cls := Value.type "tuple", data := Data.seq #[Value.type "Exception"] }) ::
  (nat_lit 25, { cls := Value.type "cell", data := Data.cell (some (Value.ref 47)) }) ::
  (nat_lit 30, { cls := Value.type "tuple", data := Data.seq #[Value.ref 25] }) ::
  (nat_lit 31, { cls := Value.type "tuple", data := Data.seq #[Value.str (Str.ofString "__class__") 211] }) ::
  (nat_lit 33, { cls := Value.type "tuple", data := Data.seq #[Value.str (Str.ofString "self") 212, Value.str (Str.ofString "what") 213] }) ::
  (nat_lit 34, { cls := Value.type "tuple", data := Data.seq #[] }) ::
  (nat_lit 36, { cls := Value.type "code", data := Data.fields #[Value.str (Str.ofString "__init__") 208, Value.str (Str.ofString "HeapError.__init__") 209, Value.str (Str.ofString "/claim/cut.py") 210, Value.int 7 0, Value.int 2 0, Value.int 0 0, Value.int 0 0, Value.int 3 0, Value.ref 31, Value.bool true, Value.int 181 0, Value.ref 32, Value.none, Value.ref 33, Value.ref 34, Value.ref 35, Value.int 214 0, Value.int 7 0, Value.str (Str.ofString "/claim/cut.py") 215] }) ::
  (nat_lit 37, { cls := Value.type "function", data := Data.func { name := Str.ofString "__init__", qualname := Str.ofString "HeapError.__init__", params := hd.pa37, body := FuncBody.stmts hd.bo37, scope := hd.sc37, globals := 3, closure := [(Str.ofString "__class__", 25)], defaults := Value.none, kwdefaults := Value.none, pyModule := Value.str (Str.ofString "alikeheap.errors") 194, code := Value.ref 36, closureTuple := Value.ref 30 } }) ::
  (nat_lit 38, { cls := Value.type "tuple", data := Data.seq #[] }) ::
  (nat_lit 40, { cls := Value.type "tuple", data := Data.seq #[Value.str (Str.ofString "self") 220] }) ::
  (nat_lit 41, { cls := Value.type "tuple", data := Data.seq #[] }) ::
  (nat_lit 43, { cls := Value.type "code", data := Data.fields #[Value.str (Str.ofString "told") 217, Value.str (Str.ofString "HeapError.told") 218, Value.str (Str.ofString "/claim/cut.py") 219, Value.int 11 0, Value.int 1 0, Value.int 0 0, Value.int 0 0, Value.int 3 0, Value.ref 38, Value.bool true, Value.int 181 0, Value.ref 39, Value.none, Value.ref 40, Value.ref 41, Value.ref 42, Value.int 221 0, Value.int 11 0, Value.str (Str.ofString "/claim/cut.py") 222] }) ::
  (nat_lit 44, { cls := Value.type "function", data := Data.func { name := Str.ofString "told", qualname := Str.ofString "HeapError.told", params := hd.pa44, body := FuncBody.stmts hd.bo44, scope := hd.sc44, globals := 3, closure := [], defaults := Value.none, kwdefaults := Value.none, pyModule := Value.str (Str.ofString "alikeheap.errors") 194, code := Value.ref 43 } }) ::
  (nat_lit 45, { cls := Value.type "tuple", data := Data.seq #[Value.str (Str.ofString "what") 224] }) ::
  (nat_lit 46, { cls := Value.type "dict", data := Data.dict #[{ hash := PyData.keyHash P (Str.ofString "__module__"), key := Value.str (Str.ofString "__module__") 203, val := Value.str (Str.ofString "alikeheap.errors") 194 }, { hash := PyData.keyHash P (Str.ofString "__firstlineno__"), key := Value.str (Str.ofString "__firstlineno__") 207, val := Value.int 5 206 }, { hash := PyData.keyHash P (Str.ofString "__init__"), key := Value.str (Str.ofString "__init__") 216, val := Value.ref 37 }, { hash := PyData.keyHash P (Str.ofString "told"), key := Value.str (Str.ofString "told") 223, val := Value.ref 44 }, { hash := PyData.keyHash P (Str.ofString "__static_attributes__"), key := Value.str (Str.ofString "__static_attributes__") 225, val := Value.ref 45 }, { hash := PyData.keyHash P (Str.ofString "__weakref__"), key := Value.str (Str.ofString "__weakref__") 228, val := Value.ref 48 }, { hash := PyData.keyHash P (Str.ofString "__doc__"), key := Value.str (Str.ofString "__doc__") 229, val := Value.none }] 4 }) ::
  (nat_lit 47, { cls := Value.type "type", data := Data.cls { name := Str.ofString "HeapError", bases := [Value.type "Exception"], mro := [Value.ref 47, Value.type "Exception", Value.type "BaseException", Value.type "object"], ns := 46, qualname := Str.ofString "HeapError", subclasses := [Value.ref 76, Value.ref 88] }, slots := #[some (Value.ref 22), none, some (Value.str (Str.ofString "HeapError") 196), some (Value.str (Str.ofString "HeapError") 204), some (Value.builtin "Exception.__new__"), some (Value.bool true)] }) ::
  (nat_lit 48, { cls := Value.type "getset_descriptor", data := Data.fields #[Value.str (Str.ofString "__weakref__") 227, Value.ref 47, Value.builtin "ExceptionGroup.__weakref__", Value.none] }) ::
  (nat_lit 51, { cls := Value.type "tuple", data := Data.seq #[Value.ref 47] }) ::
  (nat_lit 54, { cls := Value.type "cell", data := Data.cell (some (Value.ref 76)) }) ::
  (nat_lit 59, { cls := Value.type "tuple", data := Data.seq #[Value.ref 54] }) ::
  (nat_lit 60, { cls := Value.type "tuple", data := Data.seq #[Value.str (Str.ofString "__class__") 249] }) ::
  (nat_lit 62, { cls := Value.type "tuple", data := Data.seq #[Value.str (Str.ofString "self") 250, Value.str (Str.ofString "what") 251, Value.str (Str.ofString "spot") 252] }) ::
  (nat_lit 63, { cls := Value.type "tuple", data := Data.seq #[] }) ::
  (nat_lit 65, { cls := Value.type "code", data := Data.fields #[Value.str (Str.ofString "__init__") 246, Value.str (Str.ofString "TextFault.__init__") 247, Value.str (Str.ofString "/claim/cut.py") 248, Value.int 15 0, Value.int 3 0, Value.int 0 0, Value.int 0 0, Value.int 3 0, Value.ref 60, Value.bool true, Value.int 181 0, Value.ref 61, Value.none, Value.ref 62, Value.ref 63, Value.ref 64, Value.int 253 0, Value.int 15 0, Value.str (Str.ofString "/claim/cut.py") 254] }) ::
  (nat_lit 66, { cls := Value.type "function", data := Data.func { name := Str.ofString "__init__", qualname := Str.ofString "TextFault.__init__", params := hd.pa66, body := FuncBody.stmts hd.bo66, scope := hd.sc66, globals := 3, closure := [(Str.ofString "__class__", 54)], defaults := Value.none, kwdefaults := Value.none, pyModule := Value.str (Str.ofString "alikeheap.errors") 194, code := Value.ref 65, closureTuple := Value.ref 59 } }) ::
  (nat_lit 67, { cls := Value.type "tuple", data := Data.seq #[] }) ::
  (nat_lit 69, { cls := Value.type "tuple", data := Data.seq #[Value.str (Str.ofString "self") 259] }) ::
  (nat_lit 70, { cls := Value.type "tuple", data := Data.seq #[] }) ::
  (nat_lit 72, { cls := Value.type "code", data := Data.fields #[Value.str (Str.ofString "told") 256, Value.str (Str.ofString "TextFault.told") 257, Value.str (Str.ofString "/claim/cut.py") 258, Value.int 19 0, Value.int 1 0, Value.int 0 0, Value.int 0 0, Value.int 3 0, Value.ref 67, Value.bool true, Value.int 181 0, Value.ref 68, Value.none, Value.ref 69, Value.ref 70, Value.ref 71, Value.int 260 0, Value.int 19 0, Value.str (Str.ofString "/claim/cut.py") 261] }) ::
  (nat_lit 73, { cls := Value.type "function", data := Data.func { name := Str.ofString "told", qualname := Str.ofString "TextFault.told", params := hd.pa73, body := FuncBody.stmts hd.bo73, scope := hd.sc73, globals := 3, closure := [], defaults := Value.none, kwdefaults := Value.none, pyModule := Value.str (Str.ofString "alikeheap.errors") 194, code := Value.ref 72 } }) ::
  (nat_lit 74, { cls := Value.type "tuple", data := Data.seq #[Value.str (Str.ofString "spot") 263] }) ::
  (nat_lit 75, { cls := Value.type "dict", data := Data.dict #[{ hash := PyData.keyHash P (Str.ofString "__module__"), key := Value.str (Str.ofString "__module__") 241, val := Value.str (Str.ofString "alikeheap.errors") 194 }, { hash := PyData.keyHash P (Str.ofString "__firstlineno__"), key := Value.str (Str.ofString "__firstlineno__") 245, val := Value.int 13 244 }, { hash := PyData.keyHash P (Str.ofString "__init__"), key := Value.str (Str.ofString "__init__") 255, val := Value.ref 66 }, { hash := PyData.keyHash P (Str.ofString "told"), key := Value.str (Str.ofString "told") 262, val := Value.ref 73 }, { hash := PyData.keyHash P (Str.ofString "__static_attributes__"), key := Value.str (Str.ofString "__static_attributes__") 264, val := Value.ref 74 }, { hash := PyData.keyHash P (Str.ofString "__doc__"), key := Value.str (Str.ofString "__doc__") 266, val := Value.none }] 3 }) ::
  (nat_lit 76, { cls := Value.type "type", data := Data.cls { name := Str.ofString "TextFault", bases := [Value.ref 47], mro := [Value.ref 76, Value.ref 47, Value.type "Exception", Value.type "BaseException", Value.type "object"], ns := 75, qualname := Str.ofString "TextFault" }, slots := #[some (Value.ref 51), none, some (Value.str (Str.ofString "TextFault") 234), some (Value.str (Str.ofString "TextFault") 242), some (Value.builtin "Exception.__new__"), some (Value.bool true)] }) ::
  (nat_lit 79, { cls := Value.type "tuple", data := Data.seq #[Value.ref 47] }) ::
  (nat_lit 86, { cls := Value.type "tuple", data := Data.seq #[] }) ::
  (nat_lit 87, { cls := Value.type "dict", data := Data.dict #[{ hash := PyData.keyHash P (Str.ofString "__module__"), key := Value.str (Str.ofString "__module__") 276, val := Value.str (Str.ofString "alikeheap.errors") 194 }, { hash := PyData.keyHash P (Str.ofString "__firstlineno__"), key := Value.str (Str.ofString "__firstlineno__") 280, val := Value.int 21 279 }, { hash := PyData.keyHash P (Str.ofString "__static_attributes__"), key := Value.str (Str.ofString "__static_attributes__") 281, val := Value.ref 86 }, { hash := PyData.keyHash P (Str.ofString "__doc__"), key := Value.str (Str.ofString "__doc__") 282, val := Value.none }] 2 }) ::
  (nat_lit 88, { cls := Value.type "type", data := Data.cls { name := Str.ofString "RuleFault", bases := [Value.ref 47], mro := [Value.ref 88, Value.ref 47, Value.type "Exception", Value.type "BaseException", Value.type "object"], ns := 87, qualname := Str.ofString "RuleFault" }, slots := #[some (Value.ref 79), none, some (Value.str (Str.ofString "RuleFault") 269), some (Value.str (Str.ofString "RuleFault") 277), some (Value.builtin "Exception.__new__"), some (Value.bool true)] }) ::
  (nat_lit 91, { cls := Value.type "tuple", data := Data.seq #[] }) ::
  (nat_lit 94, { cls := Value.type "code", data := Data.fields #[Value.str (Str.ofString "is_op") 287, Value.str (Str.ofString "is_op") 288, Value.str (Str.ofString "/claim/cut.py") 289, Value.int 24 0, Value.int 1 0, Value.int 0 0, Value.int 0 0, Value.int 3 0, Value.ref 91, Value.bool true, Value.int 181 0, Value.ref 92, Value.none, Value.none, Value.none, Value.ref 93, Value.int 290 0, Value.int 24 0, Value.str (Str.ofString "/claim/cut.py") 291] }) ::
  (nat_lit 95, { cls := Value.type "function", data := Data.func { name := Str.ofString "is_op", qualname := Str.ofString "is_op", params := hd.pa95, body := FuncBody.stmts hd.bo95, scope := hd.sc95, globals := 3, closure := [], defaults := Value.none, kwdefaults := Value.none, pyModule := Value.str (Str.ofString "alikeheap.terms") 285, code := Value.ref 94 } }) ::
  (nat_lit 96, { cls := Value.type "tuple", data := Data.seq #[] }) ::
  (nat_lit 98, { cls := Value.type "tuple", data := Data.seq #[Value.str (Str.ofString "t") 296] }) ::
  (nat_lit 99, { cls := Value.type "tuple", data := Data.seq #[] }) ::
  (nat_lit 101, { cls := Value.type "code", data := Data.fields #[Value.str (Str.ofString "is_variable") 293, Value.str (Str.ofString "is_variable") 294, Value.str (Str.ofString "/claim/cut.py") 295, Value.int 26 0, Value.int 1 0, Value.int 0 0, Value.int 0 0, Value.int 3 0, Value.ref 96, Value.bool true, Value.int 181 0, Value.ref 97, Value.none, Value.ref 98, Value.ref 99, Value.ref 100, Value.int 297 0, Value.int 26 0, Value.str (Str.ofString "/claim/cut.py") 298] }) ::
  (nat_lit 102, { cls := Value.type "function", data := Data.func { name := Str.ofString "is_variable", qualname := Str.ofString "is_variable", params := hd.pa102, body := FuncBody.stmts hd.bo102, scope := hd.sc102, globals := 3, closure := [], defaults := Value.none, kwdefaults := Value.none, pyModule := Value.str (Str.ofString "alikeheap.terms") 285, code := Value.ref 101 } }) ::
  (nat_lit 103, { cls := Value.type "tuple", data := Data.seq #[] }) ::
  (nat_lit 106, { cls := Value.type "code", data := Data.fields #[Value.str (Str.ofString "variables") 300, Value.str (Str.ofString "variables") 301, Value.str (Str.ofString "/claim/cut.py") 302, Value.int 28 0, Value.int 1 0, Value.int 0 0, Value.int 0 0, Value.int 3 0, Value.ref 103, Value.bool true, Value.int 181 0, Value.ref 104, Value.none, Value.none, Value.none, Value.ref 105, Value.int 303 0, Value.int 28 0, Value.str (Str.ofString "/claim/cut.py") 304] }) ::
  (nat_lit 107, { cls := Value.type "function", data := Data.func { name := Str.ofString "variables", qualname := Str.ofString "variables", params := hd.pa107, body := FuncBody.stmts hd.bo107, scope := hd.sc107, globals := 3, closure := [], defaults := Value.none, kwdefaults := Value.none, pyModule := Value.str (Str.ofString "alikeheap.terms") 285, code := Value.ref 106 } }) ::
  (nat_lit 108, { cls := Value.type "tuple", data := Data.seq #[] }) ::
  (nat_lit 111, { cls := Value.type "code", data := Data.fields #[Value.str (Str.ofString "parts") 306, Value.str (Str.ofString "parts") 307, Value.str (Str.ofString "/claim/cut.py") 308, Value.int 30 0, Value.int 1 0, Value.int 0 0, Value.int 0 0, Value.int 3 0, Value.ref 108, Value.bool true, Value.int 181 0, Value.ref 109, Value.none, Value.none, Value.none, Value.ref 110, Value.int 309 0, Value.int 30 0, Value.str (Str.ofString "/claim/cut.py") 310] }) ::
  (nat_lit 112, { cls := Value.type "function", data := Data.func { name := Str.ofString "parts", qualname := Str.ofString "parts", params := hd.pa112, body := FuncBody.stmts hd.bo112, scope := hd.sc112, globals := 3, closure := [], defaults := Value.none, kwdefaults := Value.none, pyModule := Value.str (Str.ofString "alikeheap.terms") 285, code := Value.ref 111 } }) ::
  (nat_lit 120, { cls := Value.type "tuple", data := Data.seq #[] }) ::
  (nat_lit 123, { cls := Value.type "code", data := Data.fields #[Value.str (Str.ofString "__init__") 326, Value.str (Str.ofString "Rule.__init__") 327, Value.str (Str.ofString "/claim/cut.py") 328, Value.int 38 0, Value.int 5 0, Value.int 0 0, Value.int 0 0, Value.int 3 0, Value.ref 120, Value.bool true, Value.int 181 0, Value.ref 121, Value.none, Value.none, Value.none, Value.ref 122, Value.int 329 0, Value.int 38 0, Value.str (Str.ofString "/claim/cut.py") 330] }) ::
  (nat_lit 124, { cls := Value.type "function", data := Data.func { name := Str.ofString "__init__", qualname := Str.ofString "Rule.__init__", params := hd.pa124, body := FuncBody.stmts hd.bo124, scope := hd.sc124, globals := 3, closure := [], defaults := Value.none, kwdefaults := Value.none, pyModule := Value.str (Str.ofString "alikeheap.rules") 312, code := Value.ref 123 } }) ::
  (nat_lit 125, { cls := Value.type "tuple", data := Data.seq #[] }) ::
  (nat_lit 127, { cls := Value.type "tuple", data := Data.seq #[Value.str (Str.ofString "self") 335] }) ::
  (nat_lit 128, { cls := Value.type "tuple", data := Data.seq #[] }) ::
  (nat_lit 130, { cls := Value.type "code", data := Data.fields #[Value.str (Str.ofString "turned") 332, Value.str (Str.ofString "Rule.turned") 333, Value.str (Str.ofString "/claim/cut.py") 334, Value.int 54 0, Value.int 1 0, Value.int 0 0, Value.int 0 0, Value.int 3 0, Value.ref 125, Value.bool true, Value.int 181 0, Value.ref 126, Value.none, Value.ref 127, Value.ref 128, Value.ref 129, Value.int 336 0, Value.int 54 0, Value.str (Str.ofString "/claim/cut.py") 337] }) ::
  (nat_lit 131, { cls := Value.type "function", data := Data.func { name := Str.ofString "turned", qualname := Str.ofString "Rule.turned", params := hd.pa131, body := FuncBody.stmts hd.bo131, scope := hd.sc131, globals := 3, closure := [], defaults := Value.none, kwdefaults := Value.none, pyModule := Value.str (Str.ofString "alikeheap.rules") 312, code := Value.ref 130 } }) ::
  (nat_lit 132, { cls := Value.type "tuple", data := Data.seq #[Value.str (Str.ofString "left") 339, Value.str (Str.ofString "name") 340, Value.str (Str.ofString "needs") 341, Value.str (Str.ofString "right") 342] }) ::
  (nat_lit 133, { cls := Value.type "dict", data := Data.dict #[{ hash := PyData.keyHash P (Str.ofString "__module__"), key := Value.str (Str.ofString "__module__") 321, val := Value.str (Str.ofString "alikeheap.rules") 312 }, { hash := PyData.keyHash P (Str.ofString "__firstlineno__"), key := Value.str (Str.ofString "__firstlineno__") 325, val := Value.int 36 324 }, { hash := PyData.keyHash P (Str.ofString "__init__"), key := Value.str (Str.ofString "__init__") 331, val := Value.ref 124 }, { hash := PyData.keyHash P (Str.ofString "turned"), key := Value.str (Str.ofString "turned") 338, val := Value.ref 131 }, { hash := PyData.keyHash P (Str.ofString "__static_attributes__"), key := Value.str (Str.ofString "__static_attributes__") 343, val := Value.ref 132 }, { hash := PyData.keyHash P (Str.ofString "__dict__"), key := Value.str (Str.ofString "__dict__") 345, val := Value.ref 135 }, { hash := PyData.keyHash P (Str.ofString "__weakref__"), key := Value.str (Str.ofString "__weakref__") 347, val := Value.ref 136 }, { hash := PyData.keyHash P (Str.ofString "__doc__"), key := Value.str (Str.ofString "__doc__") 348, val := Value.none }] 4 }) ::
  (nat_lit 134, { cls := Value.type "type", data := Data.cls { name := Str.ofString "Rule", bases := [Value.type "object"], mro := [Value.ref 134, Value.type "object"], ns := 133, qualname := Str.ofString "Rule" }, slots := #[none, none, some (Value.str (Str.ofString "Rule") 314), some (Value.str (Str.ofString "Rule") 322), some (Value.builtin "object.__new__"), some (Value.bool true)] }) ::
  (nat_lit 135, { cls := Value.type "getset_descriptor", data := Data.fields #[Value.str (Str.ofString "__dict__") 344, Value.ref 134, Value.builtin "function.__dict__", Value.builtin "function.__dict__#set"] }) ::
  (nat_lit 136, { cls := Value.type "getset_descriptor", data := Data.fields #[Value.str (Str.ofString "__weakref__") 346, Value.ref 134, Value.builtin "ExceptionGroup.__weakref__", Value.none] }) ::
  (nat_lit 139, { cls := Value.type "tuple", data := Data.seq #[] }) ::
  (nat_lit 141, { cls := Value.type "tuple", data := Data.seq #[Value.str (Str.ofString "text") 360, Value.str (Str.ofString "found") 361, Value.str (Str.ofString "spot") 362, Value.str (Str.ofString "begin") 363] }) ::
  (nat_lit 142, { cls := Value.type "tuple", data := Data.seq #[] }) ::
  (nat_lit 144, { cls := Value.type "code", data := Data.fields #[Value.str (Str.ofString "words_of") 357, Value.str (Str.ofString "words_of") 358, Value.str (Str.ofString "/claim/cut.py") 359, Value.int 59 0, Value.int 1 0, Value.int 0 0, Value.int 0 0, Value.int 3 0, Value.ref 139, Value.bool true, Value.int 181 0, Value.ref 140, Value.none, Value.ref 141, Value.ref 142, Value.ref 143, Value.int 364 0, Value.int 59 0, Value.str (Str.ofString "/claim/cut.py") 365] }) ::
  (nat_lit 145, { cls := Value.type "function", data := Data.func { name := Str.ofString "words_of", qualname := Str.ofString "words_of", params := hd.pa145, body := FuncBody.stmts hd.bo145, scope := hd.sc145, globals := 3, closure := [], defaults := Value.none, kwdefaults := Value.none, pyModule := Value.str (Str.ofString "alikeheap.texts") 351, code := Value.ref 144 } }) ::
  (nat_lit 153, { cls := Value.type "tuple", data := Data.seq #[] }) ::
  (nat_lit 155, { cls := Value.type "tuple", data := Data.seq #[Value.str (Str.ofString "self") 382, Value.str (Str.ofString "text") 383] }) ::
  (nat_lit 156, { cls := Value.type "tuple", data := Data.seq #[] }) ::
  (nat_lit 158, { cls := Value.type "code", data := Data.fields #[Value.str (Str.ofString "__init__") 379, Value.str (Str.ofString "Reader.__init__") 380, Value.str (Str.ofString "/claim/cut.py") 381, Value.int 79 0, Value.int 2 0, Value.int 0 0, Value.int 0 0, Value.int 3 0, Value.ref 153, Value.bool true, Value.int 181 0, Value.ref 154, Value.none, Value.ref 155, Value.ref 156, Value.ref 157, Value.int 384 0, Value.int 79 0, Value.str (Str.ofString "/claim/cut.py") 385] }) ::
  (nat_lit 159, { cls := Value.type "function", data := Data.func { name := Str.ofString "__init__", qualname := Str.ofString "Reader.__init__", params := hd.pa159, body := FuncBody.stmts hd.bo159, scope := hd.sc159, globals := 3, closure := [], defaults := Value.none, kwdefaults := Value.none, pyModule := Value.str (Str.ofString "alikeheap.texts") 351, code := Value.ref 158 } }) ::
  (nat_lit 160, { cls := Value.type "tuple", data := Data.seq #[] }) ::
  (nat_lit 162, { cls := Value.type "tuple", data := Data.seq #[Value.str (Str.ofString "self") 390] }) ::
  (nat_lit 163, { cls := Value.type "tuple", data := Data.seq #[] }) ::
  (nat_lit 165, { cls := Value.type "code", data := Data.fields #[Value.str (Str.ofString "word") 387, Value.str (Str.ofString "Reader.word") 388, Value.str (Str.ofString "/claim/cut.py") 389, Value.int 85 0, Value.int 1 0, Value.int 0 0, Value.int 0 0, Value.int 3 0, Value.ref 160, Value.bool true, Value.int 181 0, Value.ref 161, Value.none, Value.ref 162, Value.ref 163, Value.ref 164, Value.int 391 0, Value.int 85 0, Value.str (Str.ofString "/claim/cut.py") 392] }) ::
  (nat_lit 166, { cls := Value.type "function", data := Data.func { name := Str.ofString "word", qualname := Str.ofString "Reader.word", params := hd.pa166, body := FuncBody.stmts hd.bo166, scope := hd.sc166, globals := 3, closure := [], defaults := Value.none, kwdefaults := Value.none, pyModule := Value.str (Str.ofString "alikeheap.texts") 351, code := Value.ref 165 } }) ::
  (nat_lit 167, { cls := Value.type "tuple", data := Data.seq #[] }) ::
  (nat_lit 169, { cls := Value.type "tuple", data := Data.seq #[Value.str (Str.ofString "self") 397] }) ::
  (nat_lit 170, { cls := Value.type "tuple", data := Data.seq #[] }) ::
  (nat_lit 172, { cls := Value.type "code", data := Data.fields #[Value.str (Str.ofString "spot") 394, Value.str (Str.ofString "Reader.spot") 395, Value.str (Str.ofString "/claim/cut.py") 396, Value.int 88 0, Value.int 1 0, Value.int 0 0, Value.int 0 0, Value.int 3 0, Value.ref 167, Value.bool true, Value.int 181 0, Value.ref 168, Value.none, Value.ref 169, Value.ref 170, Value.ref 171, Value.int 398 0, Value.int 88 0, Value.str (Str.ofString "/claim/cut.py") 399] }) ::
  (nat_lit 173, { cls := Value.type "function", data := Data.func { name := Str.ofString "spot", qualname := Str.ofString "Reader.spot", params := hd.pa173, body := FuncBody.stmts hd.bo173, scope := hd.sc173, globals := 3, closure := [], defaults := Value.none, kwdefaults := Value.none, pyModule := Value.str (Str.ofString "alikeheap.texts") 351, code := Value.ref 172 } }) ::
  (nat_lit 174, { cls := Value.type "tuple", data := Data.seq #[] }) ::
  (nat_lit 176, { cls := Value.type "tuple", data := Data.seq #[Value.str (Str.ofString "self") 404] }) ::
  (nat_lit 177, { cls := Value.type "tuple", data := Data.seq #[] }) ::
  (nat_lit 179, { cls := Value.type "code", data := Data.fields #[Value.str (Str.ofString "take") 401, Value.str (Str.ofString "Reader.take") 402, Value.str (Str.ofString "/claim/cut.py") 403, Value.int 91 0, Value.int 1 0, Value.int 0 0, Value.int 0 0, Value.int 3 0, Value.ref 174, Value.bool true, Value.int 181 0, Value.ref 175, Value.none, Value.ref 176, Value.ref 177, Value.ref 178, Value.int 405 0, Value.int 91 0, Value.str (Str.ofString "/claim/cut.py") 406] }) ::
  (nat_lit 180, { cls := Value.type "function", data := Data.func { name := Str.ofString "take", qualname := Str.ofString "Reader.take", params := hd.pa180, body := FuncBody.stmts hd.bo180, scope := hd.sc180, globals := 3, closure := [], defaults := Value.none, kwdefaults := Value.none, pyModule := Value.str (Str.ofString "alikeheap.texts") 351, code := Value.ref 179 } }) ::
  (nat_lit 181, { cls := Value.type "tuple", data := Data.seq #[] }) ::
  (nat_lit 183, { cls := Value.type "tuple", data := Data.seq #[Value.str (Str.ofString "self") 411, Value.str (Str.ofString "word") 412] }) ::
  (nat_lit 184, { cls := Value.type "tuple", data := Data.seq #[] }) ::
  (nat_lit 186, { cls := Value.type "code", data := Data.fields #[Value.str (Str.ofString "want") 408, Value.str (Str.ofString "Reader.want") 409, Value.str (Str.ofString "/claim/cut.py") 410, Value.int 95 0, Value.int 2 0, Value.int 0 0, Value.int 0 0, Value.int 3 0, Value.ref 181, Value.bool true, Value.int 181 0, Value.ref 182, Value.none, Value.ref 183, Value.ref 184, Value.ref 185, Value.int 413 0, Value.int 95 0, Value.str (Str.ofString "/claim/cut.py") 414] }) ::
  (nat_lit 187, { cls := Value.type "function", data := Data.func { name := Str.ofString "want", qualname := Str.ofString "Reader.want", params := hd.pa187, body := FuncBody.stmts hd.bo187, scope := hd.sc187, globals := 3, closure := [], defaults := Value.none, kwdefaults := Value.none, pyModule := Value.str (Str.ofString "alikeheap.texts") 351, code := Value.ref 186 } }) ::
  (nat_lit 188, { cls := Value.type "tuple", data := Data.seq #[] }) ::
  (nat_lit 190, { cls := Value.type "tuple", data := Data.seq #[Value.str (Str.ofString "self") 419] }) ::
  (nat_lit 191, { cls := Value.type "tuple", data := Data.seq #[] }) ::
  (nat_lit 193, { cls := Value.type "code", data := Data.fields #[Value.str (Str.ofString "op") 416, Value.str (Str.ofString "Reader.op") 417, Value.str (Str.ofString "/claim/cut.py") 418, Value.int 101 0, Value.int 1 0, Value.int 0 0, Value.int 0 0, Value.int 3 0, Value.ref 188, Value.bool true, Value.int 181 0, Value.ref 189, Value.none, Value.ref 190, Value.ref 191, Value.ref 192, Value.int 420 0, Value.int 101 0, Value.str (Str.ofString "/claim/cut.py") 421] }) ::
  (nat_lit 194, { cls := Value.type "function", data := Data.func { name := Str.ofString "op", qualname := Str.ofString "Reader.op", params := hd.pa194, body := FuncBody.stmts hd.bo194, scope := hd.sc194, globals := 3, closure := [], defaults := Value.none, kwdefaults := Value.none, pyModule := Value.str (Str.ofString "alikeheap.texts") 351, code := Value.ref 193 } }) ::
  (nat_lit 195, { cls := Value.type "tuple", data := Data.seq #[] }) ::
  (nat_lit 197, { cls := Value.type "tuple", data := Data.seq #[Value.str (Str.ofString "self") 426] }) ::
  (nat_lit 198, { cls := Value.type "tuple", data := Data.seq #[] }) ::
  (nat_lit 200, { cls := Value.type "code", data := Data.fields #[Value.str (Str.ofString "begin") 423, Value.str (Str.ofString "Reader.begin") 424, Value.str (Str.ofString "/claim/cut.py") 425, Value.int 106 0, Value.int 1 0, Value.int 0 0, Value.int 0 0, Value.int 3 0, Value.ref 195, Value.bool true, Value.int 181 0, Value.ref 196, Value.none, Value.ref 197, Value.ref 198, Value.ref 199, Value.int 427 0, Value.int 106 0, Value.str (Str.ofString "/claim/cut.py") 428] }) ::
  (nat_lit 201, { cls := Value.type "function", data := Data.func { name := Str.ofString "begin", qualname := Str.ofString "Reader.begin", params := hd.pa201, body := FuncBody.stmts hd.bo201, scope := hd.sc201, globals := 3, closure := [], defaults := Value.none, kwdefaults := Value.none, pyModule := Value.str (Str.ofString "alikeheap.texts") 351, code := Value.ref 200 } }) ::
  (nat_lit 202, { cls := Value.type "tuple", data := Data.seq #[] }) ::
  (nat_lit 204, { cls := Value.type "tuple", data := Data.seq #[Value.str (Str.ofString "self") 433] }) ::
  (nat_lit 205, { cls := Value.type "tuple", data := Data.seq #[] }) ::
  (nat_lit 207, { cls := Value.type "code", data := Data.fields #[Value.str (Str.ofString "close") 430, Value.str (Str.ofString "Reader.close") 431, Value.str (Str.ofString "/claim/cut.py") 432, Value.int 112 0, Value.int 1 0, Value.int 0 0, Value.int 0 0, Value.int 3 0, Value.ref 202, Value.bool true, Value.int 181 0, Value.ref 203, Value.none, Value.ref 204, Value.ref 205, Value.ref 206, Value.int 434 0, Value.int 112 0, Value.str (Str.ofString "/claim/cut.py") 435] }) ::
  (nat_lit 208, { cls := Value.type "function", data := Data.func { name := Str.ofString "close", qualname := Str.ofString "Reader.close", params := hd.pa208, body := FuncBody.stmts hd.bo208, scope := hd.sc208, globals := 3, closure := [], defaults := Value.none, kwdefaults := Value.none, pyModule := Value.str (Str.ofString "alikeheap.texts") 351, code := Value.ref 207 } }) ::
  (nat_lit 209, { cls := Value.type "tuple", data := Data.seq #[] }) ::
  (nat_lit 211, { cls := Value.type "tuple", data := Data.seq #[Value.str (Str.ofString "self") 440] }) ::
  (nat_lit 212, { cls := Value.type "tuple", data := Data.seq #[] }) ::
  (nat_lit 214, { cls := Value.type "code", data := Data.fields #[Value.str (Str.ofString "variable") 437, Value.str (Str.ofString "Reader.variable") 438, Value.str (Str.ofString "/claim/cut.py") 439, Value.int 116 0, Value.int 1 0, Value.int 0 0, Value.int 0 0, Value.int 3 0, Value.ref 209, Value.bool true, Value.int 181 0, Value.ref 210, Value.none, Value.ref 211, Value.ref 212, Value.ref 213, Value.int 441 0, Value.int 116 0, Value.str (Str.ofString "/claim/cut.py") 442] }) ::
  (nat_lit 215, { cls := Value.type "function", data := Data.func { name := Str.ofString "variable", qualname := Str.ofString "Reader.variable", params := hd.pa215, body := FuncBody.stmts hd.bo215, scope := hd.sc215, globals := 3, closure := [], defaults := Value.none, kwdefaults := Value.none, pyModule := Value.str (Str.ofString "alikeheap.texts") 351, code := Value.ref 214 } }) ::
  (nat_lit 216, { cls := Value.type "tuple", data := Data.seq #[] }) ::
  (nat_lit 218, { cls := Value.type "tuple", data := Data.seq #[Value.str (Str.ofString "self") 447, Value.str (Str.ofString "found") 448] }) ::
  (nat_lit 219, { cls := Value.type "tuple", data := Data.seq #[] }) ::
  (nat_lit 221, { cls := Value.type "code", data := Data.fields #[Value.str (Str.ofString "term") 444, Value.str (Str.ofString "Reader.term") 445, Value.str (Str.ofString "/claim/cut.py") 446, Value.int 121 0, Value.int 1 0, Value.int 0 0, Value.int 0 0, Value.int 3 0, Value.ref 216, Value.bool true, Value.int 181 0, Value.ref 217, Value.none, Value.ref 218, Value.ref 219, Value.ref 220, Value.int 449 0, Value.int 121 0, Value.str (Str.ofString "/claim/cut.py") 450] }) ::
  (nat_lit 222, { cls := Value.type "function", data := Data.func { name := Str.ofString "term", qualname := Str.ofString "Reader.term", params := hd.pa222, body := FuncBody.stmts hd.bo222, scope := hd.sc222, globals := 3, closure := [], defaults := Value.none, kwdefaults := Value.none, pyModule := Value.str (Str.ofString "alikeheap.texts") 351, code := Value.ref 221 } }) ::
  (nat_lit 223, { cls := Value.type "tuple", data := Data.seq #[] }) ::
  (nat_lit 225, { cls := Value.type "tuple", data := Data.seq #[Value.str (Str.ofString "self") 455, Value.str (Str.ofString "left") 456, Value.str (Str.ofString "kind") 457] }) ::
  (nat_lit 226, { cls := Value.type "tuple", data := Data.seq #[] }) ::
  (nat_lit 228, { cls := Value.type "code", data := Data.fields #[Value.str (Str.ofString "need") 452, Value.str (Str.ofString "Reader.need") 453, Value.str (Str.ofString "/claim/cut.py") 454, Value.int 131 0, Value.int 1 0, Value.int 0 0, Value.int 0 0, Value.int 3 0, Value.ref 223, Value.bool true, Value.int 181 0, Value.ref 224, Value.none, Value.ref 225, Value.ref 226, Value.ref 227, Value.int 458 0, Value.int 131 0, Value.str (Str.ofString "/claim/cut.py") 459] }) ::
  (nat_lit 229, { cls := Value.type "function", data := Data.func { name := Str.ofString "need", qualname := Str.ofString "Reader.need", params := hd.pa229, body := FuncBody.stmts hd.bo229, scope := hd.sc229, globals := 3, closure := [], defaults := Value.none, kwdefaults := Value.none, pyModule := Value.str (Str.ofString "alikeheap.texts") 351, code := Value.ref 228 } }) ::
  (nat_lit 230, { cls := Value.type "tuple", data := Data.seq #[] }) ::
  (nat_lit 232, { cls := Value.type "tuple", data := Data.seq #[Value.str (Str.ofString "self") 464, Value.str (Str.ofString "spot") 465, Value.str (Str.ofString "name") 466, Value.str (Str.ofString "left") 467, Value.str (Str.ofString "right") 468, Value.str (Str.ofString "needs") 469, Value.str (Str.ofString "fault") 470] }) ::
  (nat_lit 233, { cls := Value.type "tuple", data := Data.seq #[] }) ::
  (nat_lit 235, { cls := Value.type "code", data := Data.fields #[Value.str (Str.ofString "rule") 461, Value.str (Str.ofString "Reader.rule") 462, Value.str (Str.ofString "/claim/cut.py") 463, Value.int 138 0, Value.int 1 0, Value.int 0 0, Value.int 0 0, Value.int 3 0, Value.ref 230, Value.bool true, Value.int 181 0, Value.ref 231, Value.none, Value.ref 232, Value.ref 233, Value.ref 234, Value.int 471 0, Value.int 138 0, Value.str (Str.ofString "/claim/cut.py") 472] }) ::
  (nat_lit 236, { cls := Value.type "function", data := Data.func { name := Str.ofString "rule", qualname := Str.ofString "Reader.rule", params := hd.pa236, body := FuncBody.stmts hd.bo236, scope := hd.sc236, globals := 3, closure := [], defaults := Value.none, kwdefaults := Value.none, pyModule := Value.str (Str.ofString "alikeheap.texts") 351, code := Value.ref 235 } }) ::
  (nat_lit 237, { cls := Value.type "tuple", data := Data.seq #[] }) ::
  (nat_lit 240, { cls := Value.type "code", data := Data.fields #[Value.str (Str.ofString "places") 474, Value.str (Str.ofString "Reader.places") 475, Value.str (Str.ofString "/claim/cut.py") 476, Value.int 155 0, Value.int 1 0, Value.int 0 0, Value.int 0 0, Value.int 3 0, Value.ref 237, Value.bool true, Value.int 181 0, Value.ref 238, Value.none, Value.none, Value.none, Value.ref 239, Value.int 477 0, Value.int 155 0, Value.str (Str.ofString "/claim/cut.py") 478] }) ::
  (nat_lit 241, { cls := Value.type "function", data := Data.func { name := Str.ofString "places", qualname := Str.ofString "Reader.places", params := hd.pa241, body := FuncBody.stmts hd.bo241, scope := hd.sc241, globals := 3, closure := [], defaults := Value.none, kwdefaults := Value.none, pyModule := Value.str (Str.ofString "alikeheap.texts") 351, code := Value.ref 240 } }) ::
  (nat_lit 242, { cls := Value.type "tuple", data := Data.seq #[] }) ::
  (nat_lit 244, { cls := Value.type "tuple", data := Data.seq #[Value.str (Str.ofString "self") 483, Value.str (Str.ofString "found") 484] }) ::
  (nat_lit 245, { cls := Value.type "tuple", data := Data.seq #[] }) ::
  (nat_lit 247, { cls := Value.type "code", data := Data.fields #[Value.str (Str.ofString "papers") 480, Value.str (Str.ofString "Reader.papers") 481, Value.str (Str.ofString "/claim/cut.py") 482, Value.int 165 0, Value.int 1 0, Value.int 0 0, Value.int 0 0, Value.int 3 0, Value.ref 242, Value.bool true, Value.int 181 0, Value.ref 243, Value.none, Value.ref 244, Value.ref 245, Value.ref 246, Value.int 485 0, Value.int 165 0, Value.str (Str.ofString "/claim/cut.py") 486] }) ::
  (nat_lit 248, { cls := Value.type "function", data := Data.func { name := Str.ofString "papers", qualname := Str.ofString "Reader.papers", params := hd.pa248, body := FuncBody.stmts hd.bo248, scope := hd.sc248, globals := 3, closure := [], defaults := Value.none, kwdefaults := Value.none, pyModule := Value.str (Str.ofString "alikeheap.texts") 351, code := Value.ref 247 } }) ::
  (nat_lit 249, { cls := Value.type "tuple", data := Data.seq #[] }) ::
  (nat_lit 251, { cls := Value.type "tuple", data := Data.seq #[Value.str (Str.ofString "self") 491, Value.str (Str.ofString "spot") 492, Value.str (Str.ofString "kind") 493, Value.str (Str.ofString "found") 494] }) ::
  (nat_lit 252, { cls := Value.type "tuple", data := Data.seq #[] }) ::
  (nat_lit 254, { cls := Value.type "code", data := Data.fields #[Value.str (Str.ofString "paper") 488, Value.str (Str.ofString "Reader.paper") 489, Value.str (Str.ofString "/claim/cut.py") 490, Value.int 171 0, Value.int 1 0, Value.int 0 0, Value.int 0 0, Value.int 3 0, Value.ref 249, Value.bool true, Value.int 181 0, Value.ref 250, Value.none, Value.ref 251, Value.ref 252, Value.ref 253, Value.int 495 0, Value.int 171 0, Value.str (Str.ofString "/claim/cut.py") 496] }) ::
  (nat_lit 255, { cls := Value.type "function", data := Data.func { name := Str.ofString "paper", qualname := Str.ofString "Reader.paper", params := hd.pa255, body := FuncBody.stmts hd.bo255, scope := hd.sc255, globals := 3, closure := [], defaults := Value.none, kwdefaults := Value.none, pyModule := Value.str (Str.ofString "alikeheap.texts") 351, code := Value.ref 254 } }) ::
  (nat_lit 256, { cls := Value.type "tuple", data := Data.seq #[Value.str (Str.ofString "deep") 498, Value.str (Str.ofString "most") 499, Value.str (Str.ofString "place") 500, Value.str (Str.ofString "words") 501] }) ::
  (nat_lit 257, { cls := Value.type "dict", data := Data.dict #[{ hash := PyData.keyHash P (Str.ofString "__module__"), key := Value.str (Str.ofString "__module__") 374, val := Value.str (Str.ofString "alikeheap.texts") 351 }, { hash := PyData.keyHash P (Str.ofString "__firstlineno__"), key := Value.str (Str.ofString "__firstlineno__") 378, val := Value.int 77 377 }, { hash := PyData.keyHash P (Str.ofString "__init__"), key := Value.str (Str.ofString "__init__") 386, val := Value.ref 159 }, { hash := PyData.keyHash P (Str.ofString "word"), key := Value.str (Str.ofString "word") 393, val := Value.ref 166 }, { hash := PyData.keyHash P (Str.ofString "spot"), key := Value.str (Str.ofString "spot") 400, val := Value.ref 173 }, { hash := PyData.keyHash P (Str.ofString "take"), key := Value.str (Str.ofString "take") 407, val := Value.ref 180 }, { hash := PyData.keyHash P (Str.ofString "want"), key := Value.str (Str.ofString "want") 415, val := Value.ref 187 }, { hash := PyData.keyHash P (Str.ofString "op"), key := Value.str (Str.ofString "op") 422, val := Value.ref 194 }, { hash := PyData.keyHash P (Str.ofString "begin"), key := Value.str (Str.ofString "begin") 429, val := Value.ref 201 }, { hash := PyData.keyHash P (Str.ofString "close"), key := Value.str (Str.ofString "close") 436, val := Value.ref 208 }, { hash := PyData.keyHash P (Str.ofString "variable"), key := Value.str (Str.ofString "variable") 443, val := Value.ref 215 }, { hash := PyData.keyHash P (Str.ofString "term"), key := Value.str (Str.ofString "term") 451, val := Value.ref 222 }, { hash := PyData.keyHash P (Str.ofString "need"), key := Value.str (Str.ofString "need") 460, val := Value.ref 229 }, { hash := PyData.keyHash P (Str.ofString "rule"), key := Value.str (Str.ofString "rule") 473, val := Value.ref 236 }, { hash := PyData.keyHash P (Str.ofString "places"), key := Value.str (Str.ofString "places") 479, val := Value.ref 241 }, { hash := PyData.keyHash P (Str.ofString "papers"), key := Value.str (Str.ofString "papers") 487, val := Value.ref 248 }, { hash := PyData.keyHash P (Str.ofString "paper"), key := Value.str (Str.ofString "paper") 497, val := Value.ref 255 }, { hash := PyData.keyHash P (Str.ofString "__static_attributes__"), key := Value.str (Str.ofString "__static_attributes__") 502, val := Value.ref 256 }, { hash := PyData.keyHash P (Str.ofString "__dict__"), key := Value.str (Str.ofString "__dict__") 504, val := Value.ref 259 }, { hash := PyData.keyHash P (Str.ofString "__weakref__"), key := Value.str (Str.ofString "__weakref__") 506, val := Value.ref 260 }, { hash := PyData.keyHash P (Str.ofString "__doc__"), key := Value.str (Str.ofString "__doc__") 507, val := Value.none }] 4 }) ::
  (nat_lit 258, { cls := Value.type "type", data := Data.cls { name := Str.ofString "Reader", bases := [Value.type "object"], mro := [Value.ref 258, Value.type "object"], ns := 257, qualname := Str.ofString "Reader" }, slots := #[none, none, some (Value.str (Str.ofString "Reader") 367), some (Value.str (Str.ofString "Reader") 375), some (Value.builtin "object.__new__"), some (Value.bool true)] }) ::
  (nat_lit 259, { cls := Value.type "getset_descriptor", data := Data.fields #[Value.str (Str.ofString "__dict__") 503, Value.ref 258, Value.builtin "function.__dict__", Value.builtin "function.__dict__#set"] }) ::
  (nat_lit 260, { cls := Value.type "getset_descriptor", data := Data.fields #[Value.str (Str.ofString "__weakref__") 505, Value.ref 258, Value.builtin "ExceptionGroup.__weakref__", Value.none] }) ::
  (nat_lit 263, { cls := Value.type "tuple", data := Data.seq #[Value.str (Str.ofString "") 512, Value.str (Str.ofString "(") 513, Value.str (Str.ofString ")") 514, Value.str (Str.ofString ",") 515, Value.str (Str.ofString ":") 516] }) ::
  (nat_lit 264, { cls := Value.type "tuple", data := Data.seq #[Value.str (Str.ofString "(") 518, Value.str (Str.ofString ")") 519, Value.str (Str.ofString ":") 520, Value.str (Str.ofString "same") 521, Value.str (Str.ofString "told") 522, Value.str (Str.ofString "rule") 523, Value.str (Str.ofString "turn") 524, Value.str (Str.ofString "join") 525, Value.str (Str.ofString "under") 526, Value.str (Str.ofString "what") 527, Value.str (Str.ofString "?x") 528, Value.str (Str.ofString "?y") 529, Value.str (Str.ofString "a") 530] }) ::
  (nat_lit 265, { cls := Value.type "dict", data := Data.dict #[{ hash := PyData.keyHash P (Str.ofString "same"), key := Value.str (Str.ofString "same") 532, val := Value.ref 266 }, { hash := PyData.keyHash P (Str.ofString "told"), key := Value.str (Str.ofString "told") 535, val := Value.ref 267 }, { hash := PyData.keyHash P (Str.ofString "rule"), key := Value.str (Str.ofString "rule") 538, val := Value.ref 268 }, { hash := PyData.keyHash P (Str.ofString "turn"), key := Value.str (Str.ofString "turn") 541, val := Value.ref 269 }, { hash := PyData.keyHash P (Str.ofString "join"), key := Value.str (Str.ofString "join") 544, val := Value.ref 270 }, { hash := PyData.keyHash P (Str.ofString "under"), key := Value.str (Str.ofString "under") 548, val := Value.ref 271 }] 6 }) ::
  (nat_lit 266, { cls := Value.type "list", data := Data.seq #[Value.str (Str.ofString ")") 533, Value.str (Str.ofString "term") 534] }) ::
  (nat_lit 267, { cls := Value.type "list", data := Data.seq #[Value.str (Str.ofString ")") 536, Value.str (Str.ofString "word") 537] }) ::
  (nat_lit 268, { cls := Value.type "list", data := Data.seq #[Value.str (Str.ofString "places") 539, Value.str (Str.ofString "word") 540] }) ::
  (nat_lit 269, { cls := Value.type "list", data := Data.seq #[Value.str (Str.ofString ")") 542, Value.str (Str.ofString "paper") 543] }) ::
  (nat_lit 270, { cls := Value.type "list", data := Data.seq #[Value.str (Str.ofString "papers") 545, Value.str (Str.ofString "paper") 546, Value.str (Str.ofString "paper") 547] }) ::
  (nat_lit 271, { cls := Value.type "list", data := Data.seq #[Value.str (Str.ofString "papers") 549, Value.str (Str.ofString "word") 550] }) ::
  (nat_lit 272, { cls := Value.type "tuple", data := Data.seq #[] }) ::
  (nat_lit 274, { cls := Value.type "tuple", data := Data.seq #[Value.str (Str.ofString "feed") 561, Value.str (Str.ofString "many") 562, Value.str (Str.ofString "at") 563] }) ::
  (nat_lit 275, { cls := Value.type "tuple", data := Data.seq #[] }) ::
  (nat_lit 277, { cls := Value.type "code", data := Data.fields #[Value.str (Str.ofString "_law_pick") 558, Value.str (Str.ofString "_law_pick") 559, Value.str (Str.ofString "/claim/cut.py") 560, Value.int 197 0, Value.int 2 0, Value.int 0 0, Value.int 0 0, Value.int 3 0, Value.ref 272, Value.bool true, Value.int 181 0, Value.ref 273, Value.none, Value.ref 274, Value.ref 275, Value.ref 276, Value.int 564 0, Value.int 197 0, Value.str (Str.ofString "/claim/cut.py") 565] }) ::
  (nat_lit 278, { cls := Value.type "function", data := Data.func { name := Str.ofString "_law_pick", qualname := Str.ofString "_law_pick", params := hd.pa278, body := FuncBody.stmts hd.bo278, scope := hd.sc278, globals := 3, closure := [], defaults := Value.none, kwdefaults := Value.none, pyModule := Value.str (Str.ofString "law_rh0003_01") 510, code := Value.ref 277 } }) ::
  (nat_lit 279, { cls := Value.type "tuple", data := Data.seq #[] }) ::
  (nat_lit 281, { cls := Value.type "tuple", data := Data.seq #[Value.str (Str.ofString "feed") 570, Value.str (Str.ofString "floors") 571, Value.str (Str.ofString "way") 572, Value.str (Str.ofString "found") 573, Value.str (Str.ofString "turn") 574] }) ::
  (nat_lit 282, { cls := Value.type "tuple", data := Data.seq #[] }) ::
  (nat_lit 284, { cls := Value.type "code", data := Data.fields #[Value.str (Str.ofString "_law_term") 567, Value.str (Str.ofString "_law_term") 568, Value.str (Str.ofString "/claim/cut.py") 569, Value.int 201 0, Value.int 2 0, Value.int 0 0, Value.int 0 0, Value.int 3 0, Value.ref 279, Value.bool true, Value.int 181 0, Value.ref 280, Value.none, Value.ref 281, Value.ref 282, Value.ref 283, Value.int 575 0, Value.int 201 0, Value.str (Str.ofString "/claim/cut.py") 576] }) ::
  (nat_lit 285, { cls := Value.type "function", data := Data.func { name := Str.ofString "_law_term", qualname := Str.ofString "_law_term", params := hd.pa285, body := FuncBody.stmts hd.bo285, scope := hd.sc285, globals := 3, closure := [], defaults := Value.none, kwdefaults := Value.none, pyModule := Value.str (Str.ofString "law_rh0003_01") 510, code := Value.ref 284 } }) ::
  (nat_lit 286, { cls := Value.type "tuple", data := Data.seq #[] }) ::
  (nat_lit 288, { cls := Value.type "tuple", data := Data.seq #[Value.str (Str.ofString "feed") 581, Value.str (Str.ofString "floors") 582, Value.str (Str.ofString "way") 583, Value.str (Str.ofString "found") 584, Value.str (Str.ofString "name") 585, Value.str (Str.ofString "turn") 586] }) ::
  (nat_lit 289, { cls := Value.type "tuple", data := Data.seq #[] }) ::
  (nat_lit 291, { cls := Value.type "code", data := Data.fields #[Value.str (Str.ofString "_law_paper") 578, Value.str (Str.ofString "_law_paper") 579, Value.str (Str.ofString "/claim/cut.py") 580, Value.int 209 0, Value.int 2 0, Value.int 0 0, Value.int 0 0, Value.int 3 0, Value.ref 286, Value.bool true, Value.int 181 0, Value.ref 287, Value.none, Value.ref 288, Value.ref 289, Value.ref 290, Value.int 587 0, Value.int 209 0, Value.str (Str.ofString "/claim/cut.py") 588] }) ::
  (nat_lit 292, { cls := Value.type "function", data := Data.func { name := Str.ofString "_law_paper", qualname := Str.ofString "_law_paper", params := hd.pa292, body := FuncBody.stmts hd.bo292, scope := hd.sc292, globals := 3, closure := [], defaults := Value.none, kwdefaults := Value.none, pyModule := Value.str (Str.ofString "law_rh0003_01") 510, code := Value.ref 291 } }) ::
  (nat_lit 293, { cls := Value.type "tuple", data := Data.seq #[] }) ::
  (nat_lit 295, { cls := Value.type "tuple", data := Data.seq #[Value.str (Str.ofString "feed") 593, Value.str (Str.ofString "words") 594, Value.str (Str.ofString "way") 595, Value.str (Str.ofString "spot") 596] }) ::
  (nat_lit 296, { cls := Value.type "tuple", data := Data.seq #[] }) ::
  (nat_lit 298, { cls := Value.type "code", data := Data.fields #[Value.str (Str.ofString "_law_bent") 590, Value.str (Str.ofString "_law_bent") 591, Value.str (Str.ofString "/claim/cut.py") 592, Value.int 224 0, Value.int 2 0, Value.int 0 0, Value.int 0 0, Value.int 3 0, Value.ref 293, Value.bool true, Value.int 181 0, Value.ref 294, Value.none, Value.ref 295, Value.ref 296, Value.ref 297, Value.int 597 0, Value.int 224 0, Value.str (Str.ofString "/claim/cut.py") 598] }) ::
  (nat_lit 299, { cls := Value.type "function", data := Data.func { name := Str.ofString "_law_bent", qualname := Str.ofString "_law_bent", params := hd.pa299, body := FuncBody.stmts hd.bo299, scope := hd.sc299, globals := 3, closure := [], defaults := Value.none, kwdefaults := Value.none, pyModule := Value.str (Str.ofString "law_rh0003_01") 510, code := Value.ref 298 } }) ::
  (nat_lit 300, { cls := Value.type "tuple", data := Data.seq #[] }) ::
  (nat_lit 302, { cls := Value.type "tuple", data := Data.seq #[Value.str (Str.ofString "feed") 603, Value.str (Str.ofString "words") 604, Value.str (Str.ofString "text") 605, Value.str (Str.ofString "spots") 606, Value.str (Str.ofString "k") 607, Value.str (Str.ofString "word") 608, Value.str (Str.ofString "least") 609] }) ::
  (nat_lit 303, { cls := Value.type "tuple", data := Data.seq #[] }) ::
  (nat_lit 305, { cls := Value.type "code", data := Data.fields #[Value.str (Str.ofString "_law_laid") 600, Value.str (Str.ofString "_law_laid") 601, Value.str (Str.ofString "/claim/cut.py") 602, Value.int 229 0, Value.int 2 0, Value.int 0 0, Value.int 0 0, Value.int 3 0, Value.ref 300, Value.bool true, Value.int 181 0, Value.ref 301, Value.none, Value.ref 302, Value.ref 303, Value.ref 304, Value.int 610 0, Value.int 229 0, Value.str (Str.ofString "/claim/cut.py") 611] }) ::
  (nat_lit 306, { cls := Value.type "function", data := Data.func { name := Str.ofString "_law_laid", qualname := Str.ofString "_law_laid", params := hd.pa306, body := FuncBody.stmts hd.bo306, scope := hd.sc306, globals := 3, closure := [], defaults := Value.none, kwdefaults := Value.none, pyModule := Value.str (Str.ofString "law_rh0003_01") 510, code := Value.ref 305 } }) ::
  (nat_lit 307, { cls := Value.type "tuple", data := Data.seq #[] }) ::
  (nat_lit 309, { cls := Value.type "tuple", data := Data.seq #[Value.str (Str.ofString "words") 616, Value.str (Str.ofString "some") 617, Value.str (Str.ofString "at") 618, Value.str (Str.ofString "wanted") 619, Value.str (Str.ofString "names") 620, Value.str (Str.ofString "word") 621, Value.str (Str.ofString "want") 622, Value.str (Str.ofString "is_word") 623] }) ::
  (nat_lit 310, { cls := Value.type "tuple", data := Data.seq #[] }) ::
  (nat_lit 312, { cls := Value.type "code", data := Data.fields #[Value.str (Str.ofString "_law_gone") 613, Value.str (Str.ofString "_law_gone") 614, Value.str (Str.ofString "/claim/cut.py") 615, Value.int 237 0, Value.int 1 0, Value.int 0 0, Value.int 0 0, Value.int 3 0, Value.ref 307, Value.bool true, Value.int 181 0, Value.ref 308, Value.none, Value.ref 309, Value.ref 310, Value.ref 311, Value.int 624 0, Value.int 237 0, Value.str (Str.ofString "/claim/cut.py") 625] }) ::
  (nat_lit 313, { cls := Value.type "function", data := Data.func { name := Str.ofString "_law_gone", qualname := Str.ofString "_law_gone", params := hd.pa313, body := FuncBody.stmts hd.bo313, scope := hd.sc313, globals := 3, closure := [], defaults := Value.none, kwdefaults := Value.none, pyModule := Value.str (Str.ofString "law_rh0003_01") 510, code := Value.ref 312 } }) ::
  (nat_lit 314, { cls := Value.type "tuple", data := Data.seq #[] }) ::
  (nat_lit 316, { cls := Value.type "tuple", data := Data.seq #[Value.str (Str.ofString "words") 630, Value.str (Str.ofString "pile") 631, Value.str (Str.ofString "word") 632, Value.str (Str.ofString "done") 633] }) ::
  (nat_lit 317, { cls := Value.type "tuple", data := Data.seq #[] }) ::
  (nat_lit 319, { cls := Value.type "code", data := Data.fields #[Value.str (Str.ofString "_law_piled") 627, Value.str (Str.ofString "_law_piled") 628, Value.str (Str.ofString "/claim/cut.py") 629, Value.int 259 0, Value.int 1 0, Value.int 0 0, Value.int 0 0, Value.int 3 0, Value.ref 314, Value.bool true, Value.int 181 0, Value.ref 315, Value.none, Value.ref 316, Value.ref 317, Value.ref 318, Value.int 634 0, Value.int 259 0, Value.str (Str.ofString "/claim/cut.py") 635] }) ::
  (nat_lit 320, { cls := Value.type "function", data := Data.func { name := Str.ofString "_law_piled", qualname := Str.ofString "_law_piled", params := hd.pa320, body := FuncBody.stmts hd.bo320, scope := hd.sc320, globals := 3, closure := [], defaults := Value.none, kwdefaults := Value.none, pyModule := Value.str (Str.ofString "law_rh0003_01") 510, code := Value.ref 319 } }) ::
  (nat_lit 321, { cls := Value.type "tuple", data := Data.seq #[] }) ::
  (nat_lit 324, { cls := Value.type "code", data := Data.fields #[Value.str (Str.ofString "_law_term_of") 637, Value.str (Str.ofString "_law_term_of") 638, Value.str (Str.ofString "/claim/cut.py") 639, Value.int 270 0, Value.int 1 0, Value.int 0 0, Value.int 0 0, Value.int 3 0, Value.ref 321, Value.bool true, Value.int 181 0, Value.ref 322, Value.none, Value.none, Value.none, Value.ref 323, Value.int 640 0, Value.int 270 0, Value.str (Str.ofString "/claim/cut.py") 641] }) ::
  (nat_lit 325, { cls := Value.type "function", data := Data.func { name := Str.ofString "_law_term_of", qualname := Str.ofString "_law_term_of", params := hd.pa325, body := FuncBody.stmts hd.bo325, scope := hd.sc325, globals := 3, closure := [], defaults := Value.none, kwdefaults := Value.none, pyModule := Value.str (Str.ofString "law_rh0003_01") 510, code := Value.ref 324 } }) ::
  (nat_lit 326, { cls := Value.type "tuple", data := Data.seq #[] }) ::
  (nat_lit 329, { cls := Value.type "code", data := Data.fields #[Value.str (Str.ofString "_law_paper_of") 643, Value.str (Str.ofString "_law_paper_of") 644, Value.str (Str.ofString "/claim/cut.py") 645, Value.int 272 0, Value.int 1 0, Value.int 0 0, Value.int 0 0, Value.int 3 0, Value.ref 326, Value.bool true, Value.int 181 0, Value.ref 327, Value.none, Value.none, Value.none, Value.ref 328, Value.int 646 0, Value.int 272 0, Value.str (Str.ofString "/claim/cut.py") 647] }) ::
  (nat_lit 330, { cls := Value.type "function", data := Data.func { name := Str.ofString "_law_paper_of", qualname := Str.ofString "_law_paper_of", params := hd.pa330, body := FuncBody.stmts hd.bo330, scope := hd.sc330, globals := 3, closure := [], defaults := Value.none, kwdefaults := Value.none, pyModule := Value.str (Str.ofString "law_rh0003_01") 510, code := Value.ref 329 } }) ::
  (nat_lit 331, { cls := Value.type "tuple", data := Data.seq #[] }) ::
  (nat_lit 333, { cls := Value.type "tuple", data := Data.seq #[Value.str (Str.ofString "text") 652, Value.str (Str.ofString "words") 653, Value.str (Str.ofString "spots") 654, Value.str (Str.ofString "many") 655, Value.str (Str.ofString "is_right") 656, Value.str (Str.ofString "reader") 657, Value.str (Str.ofString "found") 658, Value.str (Str.ofString "fault") 659] }) ::
  (nat_lit 334, { cls := Value.type "tuple", data := Data.seq #[] }) ::
  (nat_lit 336, { cls := Value.type "code", data := Data.fields #[Value.str (Str.ofString "_law_is_read") 649, Value.str (Str.ofString "_law_is_read") 650, Value.str (Str.ofString "/claim/cut.py") 651, Value.int 286 0, Value.int 3 0, Value.int 0 0, Value.int 0 0, Value.int 3 0, Value.ref 331, Value.bool true, Value.int 181 0, Value.ref 332, Value.none, Value.ref 333, Value.ref 334, Value.ref 335, Value.int 660 0, Value.int 286 0, Value.str (Str.ofString "/claim/cut.py") 661] }) ::
  (nat_lit 337, { cls := Value.type "function", data := Data.func { name := Str.ofString "_law_is_read", qualname := Str.ofString "_law_is_read", params := hd.pa337, body := FuncBody.stmts hd.bo337, scope := hd.sc337, globals := 3, closure := [], defaults := Value.none, kwdefaults := Value.none, pyModule := Value.str (Str.ofString "law_rh0003_01") 510, code := Value.ref 336 } }) ::
  (nat_lit 338, { cls := Value.type "tuple", data := Data.seq #[] }) ::
  (nat_lit 341, { cls := Value.type "code", data := Data.fields #[Value.str (Str.ofString "law") 663, Value.str (Str.ofString "law") 664, Value.str (Str.ofString "/claim/cut.py") 665, Value.int 296 0, Value.int 1 0, Value.int 0 0, Value.int 0 0, Value.int 3 0, Value.ref 338, Value.bool true, Value.int 181 0, Value.ref 339, Value.none, Value.none, Value.none, Value.ref 340, Value.int 666 0, Value.int 296 0, Value.str (Str.ofString "/claim/cut.py") 667] }) ::
  (nat_lit 342, { cls := Value.type "function", data := Data.func { name := Str.ofString "law", qualname := Str.ofString "law", params := hd.pa342, body := FuncBody.stmts hd.bo342, scope := hd.sc342, globals := 3, closure := [], defaults := Value.none, kwdefaults := Value.none, pyModule := Value.str (Str.ofString "law_rh0003_01") 510, code := Value.ref 341 } }) :: []
noncomputable abbrev hd.at_39 : List Nat := [2, 3, 15, 17, 18, 20, 21, 22, 25, 30, 31, 33, 34, 36, 37, 38, 40, 41, 43, 44, 45, 46, 47, 48, 51, 54, 59, 60, 62, 63, 65, 66, 67, 69, 70, 72, 73, 74, 75, 76, 79, 86, 87, 88, 91, 94, 95, 96, 98, 99, 101, 102, 103, 106, 107, 108, 111, 112, 120, 123, 124, 125, 127, 128, 130, 131, 132, 133, 134, 135, 136, 139, 141, 142, 144, 145, 153, 155, 156, 158, 159, 160, 162, 163, 165, 166, 167, 169, 170, 172, 173, 174, 176, 177, 179, 180, 181, 183, 184, 186, 187, 188, 190, 191, 193, 194, 195, 197, 198, 200, 201, 202, 204, 205, 207, 208, 209, 211, 212, 214, 215, 216, 218, 219, 221, 222, 223, 225, 226, 228, 229, 230, 232, 233, 235, 236, 237, 240, 241, 242, 244, 245, 247, 248, 249, 251, 252, 254, 255, 256, 257, 258, 259, 260, 263, 264, 265, 266, 267, 268, 269, 270, 271, 272, 274, 275, 277, 278, 279, 281, 282, 284, 285, 286, 288, 289, 291, 292, 293, 295, 296, 298, 299, 300, 302, 303, 305, 306, 307, 309, 310, 312, 313, 314, 316, 317, 319, 320, 321, 324, 325, 326, 329, 330, 331, 333, 334, 336, 337, 338, 341, 342]
noncomputable def hd.view_39 : Program := view PySem.Challenge.pw_rh0003_01 [0,2,3,4,6,7,8,9,11,13,14,15,16,18,19,20,21,22,23,24,25,26,27,28,29,30,31]

-- the run of the top, at once
noncomputable abbrev hd.pw : Program := PySem.Challenge.rw_rh0003_01.row.prog
noncomputable abbrev hd.body : List Stmt := behindTheImports hd.pw
noncomputable def hd.env : Env := { scope := hd.pw.main.scope, locals := mainNs, globals := mainNs, cells := [], code := Value.ref 13, frame := some 14 }
noncomputable abbrev hd.code : Code := Code.body hd.body hd.env
noncomputable abbrev hd.p0 : Pos := ⟨0, 0, 0, 0⟩
noncomputable abbrev hd.p1 : Pos := ⟨296, 0, 307, 15⟩
noncomputable def hd.o11 : Obj := { cls := Value.type "tuple", data := Data.seq #[] }
noncomputable def hd.o12 : Obj := { cls := Value.none, data := Data.fields #[] }
noncomputable def hd.o13 : Obj := { cls := Value.type "code", data := Data.fields #[Value.str (Str.ofString "<module>") 182, Value.str (Str.ofString "<module>") 183,
  Value.str (Str.ofString "/claim/cut.py") 184, Value.int 1 0, Value.int 0 0, Value.int 0 0, Value.int 0 0, Value.int 0 0, Value.ref 11, Value.bool false,
  Value.int 181 0, Value.ref 12, Value.none, Value.none, Value.none, Value.none, Value.int 185 0, Value.int 1 0, Value.str (Str.ofString "/claim/cut.py") 186] }
noncomputable def hd.o14 : Obj := { cls := Value.type "frame", slots := #[some (Value.ref 13), some (Value.ref 3), some (Value.ref 3), none, some (Value.str (Str.ofString "__main__") 164), none, some (Value.ref 0)] }
noncomputable def hd.heap0 (P : Params) : Heap := { objs := #[boot_o_0 P, boot_o_1 P, boot_o_2 P, boot_o_3 P, boot_o_4 P, boot_o_5 P, boot_o_6 P, boot_o_7 P, boot_o_8 P, boot_o_9 P, boot_o_10 P, hd.o11, hd.o12, hd.o13, hd.o14] }
noncomputable def hd.tree0 (P : Params) : BT :=
  .node (boot_o_0 P)
    (.node (boot_o_1 P) (.node (boot_o_3 P) (.node (boot_o_7 P) .nil .nil) (.node hd.o11 .nil .nil)) (.node (boot_o_5 P) (.node (boot_o_9 P) .nil .nil) (.node hd.o13 .nil .nil)))
    (.node (boot_o_2 P) (.node (boot_o_4 P) (.node (boot_o_8 P) .nil .nil) (.node hd.o12 .nil .nil)) (.node (boot_o_6 P) (.node (boot_o_10 P) .nil .nil) (.node hd.o14 .nil .nil)))
noncomputable abbrev hd.loose : List Str := [Str.ofString "_law_next"]
noncomputable abbrev hd.Xt (s : Shared) : Bool := xlAt hd.view_39 [] s && recOk PySem.Challenge.rw_rh0003_01.row.toRowW.records s
theorem hd.at_eq (P : Params) : hd.at_39 = (hd.heap_39 P).map (·.1) := by kernel_rfl
noncomputable abbrev hd.hook : Hook := kHook hd.heap_39 hd.at_39 hd.at_eq
noncomputable abbrev hd.look (P : Params) (s : Shared) := ((staticsOk (importedModules hd.pw.main.body) (boot_heap P) s.heap && namesBound hd.pw s.heap && gensDone s && laidKept (boot_heap P) s.heap), openSeen hd.view_39 hd.loose (importedModules hd.pw.main.body) hd.Xt true s, hd.hook.obs s)
noncomputable abbrev hd.good (w : World) := (true, openGood hd.view_39 hd.loose, hd.hook.val w)

theorem hd.pre (w : World) (os : OsState) : topGo treeTable hd.pw w 11 (some (Value.ref 6)) 12 ⟨boot_heap w.params, Array.mk [], boot_drawn, boot_toks, os⟩ (topStub hd.pw) = some (⟨hd.heap0 w.params, Array.mk [], {}, 187, os⟩, ⟨denote treeTable hd.code, hd.code, hd.p0, [topFrame hd.p0]⟩) := by kernel_rfl
theorem hd.blk (w : World) (os : OsState) : segRun treeTable hd.pw w 11 (some (Value.ref 6)) 1 1 ⟨hd.heap0 w.params, Array.mk [], {}, 187, os⟩ (blockOf hd.body hd.env hd.code hd.p0 [topFrame hd.p0]) = some (.next, SharedT.abs ⟨hd.tree0 w.params, 15, {}, Array.mk [], {}, 187, os⟩, hd.code, hd.p0) := by kernel_rfl
theorem hd.fin (w : World) (s : Shared) (c : Code) (p : Pos) : topRun treeTable hd.pw w 11 (some (Value.ref 6)) 2 s ⟨doneF .next, c, p, [topFrame hd.p0]⟩ = some s := by
  obtain ⟨h, g, d, t, os⟩ := s
  rfl
theorem hd.size (w : World) : ((boot_heap w.params).isNs mainGlobals && (Array.mk [] : Array GenState).size == 0, (boot_heap w.params).objs.size, (boot_heap w.params).nsMap mainGlobals "__annotations__") = (true, 11, some (Value.ref 6)) := by kernel_rfl
noncomputable abbrev hd.go (w : World) (os : OsState) := segRunT treeTable hd.pw w 11 (some (Value.ref 6)) 1 2500 ⟨hd.tree0 w.params, 15, {}, Array.mk [], {}, 187, os⟩ (piecesOf hd.body hd.env hd.code hd.p0 [topFrame hd.p0])
noncomputable abbrev hd.goQ (w : World) (os : OsState) := PySem.W.Fast.tw10110043849684766642 PySem.W.Fast.tw14364793385576792824 hd.pw w 11 (some (Value.ref 6)) 1 2500 ⟨hd.tree0 w.params, 15, {}, Array.mk [], {}, 187, os⟩ (piecesOf hd.body hd.env hd.code hd.p0 [topFrame hd.p0])
theorem hd.run0 (w : World) (os : OsState) : (hd.goQ (w.withFollow "special-get-raises" false) os).map (fun r => (r.1, r.2.2.1, r.2.2.2, hd.look w.params r.2.1.abs)) = some (Flow.next, hd.code, hd.p1, hd.good w) := by kernel_rfl
theorem hd.run1 (w : World) (os : OsState) : (hd.goQ (w.withFollow "special-get-raises" true) os).map (fun r => (r.1, r.2.2.1, r.2.2.2, hd.look w.params r.2.1.abs)) = some (Flow.next, hd.code, hd.p1, hd.good w) := by kernel_rfl
theorem hd.run (w : World) (os : OsState) : (hd.go w os).map (fun r => (r.1, r.2.2.1, r.2.2.2, hd.look w.params r.2.1.abs)) = some (Flow.next, hd.code, hd.p1, hd.good w) := by
  have e := World.withFollow_self w "special-get-raises"
  have h : (hd.goQ w os).map (fun r => (r.1, r.2.2.1, r.2.2.2, hd.look w.params r.2.1.abs)) = some (Flow.next, hd.code, hd.p1, hd.good w) := by
    cases hb : w.params.followText "special-get-raises" with
    | false => rw [hb] at e; have := hd.run0 w os; rw [e] at this; exact this
    | true => rw [hb] at e; have := hd.run1 w os; rw [e] at this; exact this
  unfold hd.go
  unfold hd.goQ at h
  rw [PySem.W.Fast.te10110043849684766642, PySem.W.Fast.te14364793385576792824]
  exact h

theorem hd.left (w : World) : (openEnds treeTable hd.pw w 5002).map (fun s => (openSeen hd.view_39 hd.loose (importedModules hd.pw.main.body) hd.Xt true s, hd.hook.obs s)) = some (openGood hd.view_39 hd.loose, hd.hook.val w) := by
  obtain ⟨⟨h, gs, d, k, os⟩, e, e'⟩ := Option.map_eq_some_iff.mp (boot_open (p := hd.pw) (N := 5002) (by kernel_rfl) (by decide) (fun s => by rfl) w)
  obtain ⟨rfl, rfl, rfl, rfl⟩ : h = boot_heap w.params ∧ gs = Array.mk [] ∧ d = boot_drawn ∧ k = boot_toks := by simpa using e'
  obtain ⟨z1, z2, z3⟩ : _ ∧ _ ∧ _ := by simpa only [Prod.mk.injEq] using hd.size w
  obtain ⟨⟨f, sT, c, p⟩, hr, hl⟩ := Option.map_eq_some_iff.mp (hd.run w os)
  obtain ⟨rfl, rfl, rfl, hlook⟩ : f = Flow.next ∧ c = hd.code ∧ p = hd.p1 ∧ hd.look w.params sT.abs = hd.good w := by
    exact ⟨congrArg (fun x => x.1) hl, congrArg (fun x => x.2.1) hl, congrArg (fun x => x.2.2.1) hl, congrArg (fun x => x.2.2.2) hl⟩
  have l1 := congrArg (fun x => x.1) hlook
  have l2 := congrArg (fun x => x.2) hlook
  have r3 := piece_app (rest := []) (segRun_of hr) (piece_nil (hd.fin w sT.abs hd.code hd.p1))
  rw [List.append_nil] at r3
  have r1 := go_top (hd.pre w os) (piece_block (hd.blk w os) r3)
  have r := topRun_mono (5002 - (12 + (1 + (2500 + 2)))) _ _ _ _ r1
  have t : topFrom treeTable hd.pw w 5002 ⟨boot_heap w.params, Array.mk [], boot_drawn, boot_toks, os⟩ = some sT.abs := by
    unfold topFrom
    dsimp only
    rw [z1, z2, z3]
    refine (congrArg (fun x => Option.bind x _) r).trans ?_
    show (match (staticsOk (importedModules hd.pw.main.body) (boot_heap w.params) sT.abs.heap && namesBound hd.pw sT.abs.heap && gensDone sT.abs && laidKept (boot_heap w.params) sT.abs.heap) with | true => _ | false => _) = _
    rw [show (staticsOk (importedModules hd.pw.main.body) (boot_heap w.params) sT.abs.heap && namesBound hd.pw sT.abs.heap && gensDone sT.abs && laidKept (boot_heap w.params) sT.abs.heap) = true from l1]
  unfold openEnds
  rw [e, Option.bind_some, t]
  exact congrArg some l2
noncomputable def hd.law : DefRec := { name := Str.ofString "law", params := hd.pa342, body := hd.bo342, scope := hd.sc342, pos := hd.p1 }
theorem hd.said : PySem.Challenge.rw_rh0003_01.wellSaid = true := by rw [PySem.W.Fast.te9446332074065402090]; kernel_rfl
theorem hd.ok : (chainsOk hd.view_39 && opensWell PySem.Challenge.rw_rh0003_01.row.prog && (frees PySem.Challenge.rw_rh0003_01.row.toRowW && PySem.Challenge.rw_rh0003_01.row.within.isEmpty)) = true := by kernel_rfl
theorem hd.def_ : defOf hd.view_39 PySem.Challenge.rw_rh0003_01.row.name = some (hd.law, []) := by kernel_rfl
theorem hd.the : PySem.Challenge.rw_rh0003_01.row.prog.theDef PySem.Challenge.rw_rh0003_01.row.name = some (hd.law.params, hd.law.body, hd.law.scope) := by kernel_rfl
theorem hd.tabs : PySem.Challenge.rw_rh0003_01.row.prog.tablesWhole = true := by kernel_rfl
theorem hd.prom1 : PySem.Challenge.rw_rh0003_01.row.claim.pre [WData.list []] = true := by kernel_rfl
theorem hd.prom2 : (WData.layableAll [WData.list []] && PySem.Challenge.rw_rh0003_01.row.returnsAt [WData.list []]) = true := by kernel_rfl
theorem hd (walk : WalkO hd.view_39 hd.loose (XL hd.view_39 []) hd.hook.says PySem.Challenge.rw_rh0003_01.row.toRowW hd.law [] fun f vs => PySem.call f vs) : PySem.Challenge.rw_rh0003_01.Holds :=
  holds_law hd.said fun said => holds_open (q := hd.view_39) (loose := hd.loose) (Xt := hd.Xt) (Yf := hd.hook.obs) (Ya := hd.hook.val) (N := 5002) hd.left hd.hook.of hd.hook.keeps
    (fun s e => xl_of s (Bool.and_eq_true_iff.mp e).1) XL.keeps hd.def_ hd.the (by rfl) (fun s e => recFacts_of (Bool.and_eq_true_iff.mp e).2) (by rfl) said hd.ok
    ⟨rfl, rfl, rfl, rfl, rfl, hd.tabs⟩ ⟨[WData.list []], hd.prom1, hd.prom2⟩ walk
end
end Mine

section
open PySem PySem.W PyProof.Rows PySem.Calls PySem.Spec
set_option autoImplicit false
namespace Mine
/-- a goal for a name, while facts are taken apart -/
theorem hideP {p : Prop} (h : ∀ P : Prop, P = p → P) : p := h p rfl
theorem if_yes {b : Bool} {X Y : Prop} {i : Decidable (b = true)} (hb : b = true) (h : X) : @ite Prop (b = true) i X Y := by rw [if_pos hb]; exact h
theorem if_no {b : Bool} {X Y : Prop} {i : Decidable (b = true)} (hb : b = false) (h : Y) : @ite Prop (b = true) i X Y := by rw [if_neg (by rw [hb]; decide)]; exact h

noncomputable abbrev pw := PySem.Challenge.pw_rh0003_01

structure Wd where
  w : World
  mg : Str → Option Value
  mb : Str → Option Value
  H : Heap
  gens : Array GenState
  os : OsState

structure Sta (W : Wd) : Prop where
  X : (hd.heap_39 W.w.params).In W.H
  g : W.H.Ns mainGlobals W.mg
  b : W.H.Ns builtinsNs W.mb
  lim : W.H.NoLimit
  bi : ∀ x : Str, x ≠ "__name__" → W.mb x = bootBuiltins x

structure Hs (W : Wd) (G : Heap) (s : Shared) : Prop where
  st : Sta W
  top : W.H.StaysIn G
  keep : G.StaysIn s.heap
  gen : s.gens = W.gens
  oss : s.os = W.os

noncomputable def lk : List (Str × Value) → Str → Option Value
  | [], _ => none
  | (x, v) :: r, y => if y = x then some v else lk r y

theorem lk_hd {x : Str} {v : Value} {r : List (Str × Value)} : lk ((x, v) :: r) x = some v := if_pos rfl
theorem lk_tl {x y : Str} {v : Value} {o : Option Value} {r : List (Str × Value)} (h : lk r y = o) (ne : y ≠ x := by decide) : lk ((x, v) :: r) y = o := by
  show (if y = x then _ else _) = o
  rw [if_neg ne, h]

structure Led (W : Wd) (G : Heap) (L : Addr) (m : List (Str × Value)) (news : List (Addr × (Obj → Prop))) (s : Shared) : Prop where
  hs : Hs W G s
  ns : ∃ m₀, s.heap.Ns L m₀ ∧ ∀ y v, lk m y = some v → m₀ y = some v
  off : G.get? L = none
  nw : ∀ p ∈ news, (∃ o, s.heap.get? p.1 = some o ∧ p.2 o) ∧ p.1 ≠ L ∧ G.get? p.1 = none
  nd : (news.map (·.1)).Nodup

section basics
variable {W : Wd} {G : Heap} {L : Addr} {m : List (Str × Value)} {news : List (Addr × (Obj → Prop))} {s : Shared}

theorem Hs.X (h : Hs W G s) : (hd.heap_39 W.w.params).In s.heap := h.st.X.keeps fun b o e => h.keep b o (h.top b o e)
theorem Hs.g (h : Hs W G s) : s.heap.Ns mainGlobals W.mg := h.st.g.keeps fun b o e => h.keep b o (h.top b o e)
theorem Hs.b (h : Hs W G s) : s.heap.Ns builtinsNs W.mb := h.st.b.keeps fun b o e => h.keep b o (h.top b o e)
theorem Hs.lim (h : Hs W G s) : s.heap.NoLimit := h.st.lim.keeps fun b o e => h.keep b o (h.top b o e)
theorem Hs.to {s' : Shared} (h : Hs W G s) (k : G.StaysIn s'.heap) (hg : s'.gens = s.gens := by rfl) (ho : s'.os = s.os := by rfl) : Hs W G s' :=
  ⟨h.st, h.top, k, hg.trans h.gen, ho.trans h.oss⟩
theorem Hs.up {G' : Heap} (h : Hs W G s) (k : G.StaysIn G') (k' : G'.StaysIn s.heap) : Hs W G' s := ⟨h.st, fun b o e => k b o (h.top b o e), k', h.gen, h.oss⟩
theorem Hs.lo {G' : Heap} (h : Hs W G s) (k : G'.StaysIn G) (t : W.H.StaysIn G') : Hs W G' s := ⟨h.st, t, fun b o e => h.keep b o (k b o e), h.gen, h.oss⟩

/-- another count of tokens -/
theorem Led.tok (D : Led W G L m news s) (t : Nat) : Led W G L m news { s with toks := t } :=
  ⟨⟨D.hs.st, D.hs.top, D.hs.keep, D.hs.gen, D.hs.oss⟩, D.ns, D.off, D.nw, D.nd⟩
theorem Led.get (D : Led W G L m news s) {p : Addr × (Obj → Prop)} (hp : p ∈ news) : ∃ o, s.heap.get? p.1 = some o ∧ p.2 o := (D.nw p hp).1
theorem Led.at (D : Led W G L m news s) {a : Addr} {o : Obj} (e : G.get? a = some o) : s.heap.get? a = some o := D.hs.keep a o e

/-- fewer names -/
theorem Led.fewer {m' : List (Str × Value)} (D : Led W G L m news s) (h : ∀ p ∈ m', lk m p.1 = some p.2) : Led W G L m' news s := by
  refine ⟨D.hs, ?_, D.off, D.nw, D.nd⟩
  obtain ⟨m₀, hn, hm⟩ := D.ns
  refine ⟨m₀, hn, fun y v e => hm y v ?_⟩
  have key : ∀ l : List (Str × Value), (∀ p ∈ l, lk m p.1 = some p.2) → lk l y = some v → lk m y = some v := by
    intro l
    induction l with
    | nil => intro _ e; cases e
    | cons p r ih =>
      obtain ⟨x, u⟩ := p
      intro hl e
      by_cases hy : y = x
      · subst hy
        rw [lk_hd] at e
        cases e
        exact hl _ (.head _)
      · rw [lk_tl rfl hy] at e
        exact ih (fun q hq => hl q (.tail _ hq)) e
  exact key m' h e

/-- fewer entries -/
theorem Led.less {news' : List (Addr × (Obj → Prop))} (D : Led W G L m news s) (h : news'.Sublist news) : Led W G L m news' s :=
  ⟨D.hs, D.ns, D.off, fun p hp => D.nw p (h.subset hp), (h.map _).nodup D.nd⟩

theorem ns_push {h : Heap} {a : Addr} {m : Str → Option Value} (x : h.Ns a m) (o : Obj) : (h.push o).Ns a m :=
  x.keeps fun _ _ e => Heap.get?_push_of_some _ e

theorem Led.push (D : Led W G L m news s) (o : Obj) (P : Obj → Prop) (hp : P o) (hf : o.isFreed = false) : Led W G L m ((s.heap.objs.size, P) :: news) { s with heap := s.heap.push o } := by
  obtain ⟨m₀, hn, hm⟩ := D.ns
  refine ⟨D.hs.to fun b o' e => Heap.get?_push_of_some _ (D.hs.keep b o' e), ⟨m₀, ns_push hn o, hm⟩, D.off, ?_, ?_⟩
  · intro p hp
    rcases List.mem_cons.mp hp with rfl | hp
    · refine ⟨⟨o, Heap.get?_push_size _ hf, by assumption⟩, Nat.ne_of_gt hn.lt, ?_⟩
      cases q : G.get? s.heap.objs.size with
      | none => rfl
      | some o' => exact absurd (Heap.lt_size (D.hs.keep _ _ q)) (Nat.lt_irrefl _)
    · obtain ⟨⟨o', e, z⟩, r⟩ := D.nw p hp
      exact ⟨⟨o', Heap.get?_push_of_some _ e, z⟩, r⟩
  · rw [List.map_cons, List.nodup_cons]
    refine ⟨fun hm => ?_, D.nd⟩
    obtain ⟨p, hp, e⟩ := List.mem_map.mp hm
    obtain ⟨o', q, _⟩ := (D.nw p hp).1
    exact absurd (Heap.lt_size q) (by rw [e]; exact Nat.lt_irrefl _)

/-- what a step keeps but at one place -/
theorem Led.chg {pre post : List (Addr × (Obj → Prop))} {d : Addr} {P P' : Obj → Prop} {s' : Shared} (D : Led W G L m (pre ++ (d, P) :: post) s)
    (k : ∀ b x, s.heap.get? b = some x → b ≠ d → s'.heap.get? b = some x) (h : ∃ o, s'.heap.get? d = some o ∧ P' o) (hg : s'.gens = s.gens := by rfl) (ho : s'.os = s.os := by rfl) :
    Led W G L m (pre ++ (d, P') :: post) s' := by
  have hd := D.nw (d, P) (by simp)
  obtain ⟨m₀, ⟨oL, es, ep, hL, r⟩, hm⟩ := D.ns
  have nd := D.nd
  rw [List.map_append, List.map_cons, List.nodup_append] at nd
  have n1 : ∀ p ∈ pre, p.1 ≠ d := fun p hp => nd.2.2 p.1 (List.mem_map_of_mem hp) d (.head _)
  have n2 : ∀ p ∈ post, p.1 ≠ d := fun p hp e => (List.nodup_cons.mp nd.2.1).1 (by rw [← e]; exact List.mem_map_of_mem (f := (·.1)) hp)
  refine ⟨D.hs.to (fun b x e => k b x (D.hs.keep b x e) fun z => ?_) hg ho, ⟨m₀, ⟨oL, es, ep, k L oL hL (Ne.symm hd.2.1), r⟩, hm⟩, D.off, ?_, ?_⟩
  · rw [z, hd.2.2] at e; cases e
  · intro p hp
    rcases List.mem_append.mp hp with q | q
    · obtain ⟨⟨o', e, z⟩, r⟩ := D.nw p (List.mem_append_left _ q)
      exact ⟨⟨o', k _ _ e (n1 p q), z⟩, r⟩
    · rcases List.mem_cons.mp q with rfl | q
      · exact ⟨h, hd.2⟩
      · obtain ⟨⟨o', e, z⟩, r⟩ := D.nw p (List.mem_append_right _ (.tail _ q))
        exact ⟨⟨o', k _ _ e (n2 p q), z⟩, r⟩
  · rw [List.map_append, List.map_cons, List.nodup_append]
    exact nd
theorem Led.kept {s' : Shared} (D : Led W G L m news s) (k : s.heap.StaysIn s'.heap) (hg : s'.gens = s.gens := by rfl) (ho : s'.os = s.os := by rfl) : Led W G L m news s' := by
  obtain ⟨m₀, hn, hm⟩ := D.ns
  exact ⟨D.hs.to (fun b x e => k b x (D.hs.keep b x e)) hg ho, ⟨m₀, hn.keeps k, hm⟩, D.off, fun p hp => let ⟨⟨o, e, z⟩, r⟩ := D.nw p hp; ⟨⟨o, k _ _ e, z⟩, r⟩, D.nd⟩
/-- an entry's word is weakened -/
theorem Led.soft {pre post : List (Addr × (Obj → Prop))} {d : Addr} {P P' : Obj → Prop} (D : Led W G L m (pre ++ (d, P) :: post) s) (h : ∀ o, P o → P' o) : Led W G L m (pre ++ (d, P') :: post) s :=
  D.chg (fun _ _ e _ => e) (let ⟨o, e, z⟩ := (D.nw (d, P) (by simp)).1; ⟨o, e, h o z⟩)

/-- a hidden place or two -/
noncomputable abbrev hid (h : Heap) (l : List Addr) : Heap := hideAll h l
theorem hid_in {h : Heap} {l : List Addr} : (hid h l).StaysIn h := fun _ _ e => of_hideAll l e
theorem hid_get {h : Heap} {l : List Addr} {b : Addr} {o : Obj} (e : h.get? b = some o) (n : b ∉ l) : (hid h l).get? b = some o := hideAll_get l e n
theorem hid_none {h : Heap} {l : List Addr} {b : Addr} (n : b ∈ l) : (hid h l).get? b = none := hideAll_none l n

/-- the callee's view: all that stands, but d -/
theorem Led.view (D : Led W G L m news s) (ds : List Addr) (hds : ∀ d ∈ ds, G.get? d = none) : Hs W (hid s.heap ds) s :=
  D.hs.up (fun b o e => hid_get (D.hs.keep b o e) fun z => by rw [hds b z] at e; cases e) hid_in
theorem Led.back0 {s' : Shared} (D : Led W G L m news s) (h : Hs W s.heap s') : Led W G L m news s' := D.kept h.keep (h.gen.trans D.hs.gen.symm) (h.oss.trans D.hs.oss.symm)
theorem Led.back1 {pre post : List (Addr × (Obj → Prop))} {d : Addr} {P P' : Obj → Prop} {s' : Shared} (D : Led W G L m (pre ++ (d, P) :: post) s) (h : Hs W (hid s.heap [d]) s') (e : ∃ o, s'.heap.get? d = some o ∧ P' o) :
    Led W G L m (pre ++ (d, P') :: post) s' :=
  D.chg (fun b x q n => h.keep b x (hid_get q (by simpa using n))) e (h.gen.trans D.hs.gen.symm) (h.oss.trans D.hs.oss.symm)

/-- a new ground: all that stands but the frame and the ledger -/
theorem Led.anew (D : Led W G L m news s) : Led W (hid s.heap (L :: news.map (·.1))) L m news s ∧ G.StaysIn (hid s.heap (L :: news.map (·.1))) := by
  have st : G.StaysIn (hid s.heap (L :: news.map (·.1))) := fun b o e => hid_get (D.hs.keep b o e) fun z => by
    rcases List.mem_cons.mp z with rfl | z
    · rw [D.off] at e; cases e
    · obtain ⟨p, hp, rfl⟩ := List.mem_map.mp z
      rw [(D.nw p hp).2.2] at e; cases e
  exact ⟨⟨D.hs.up st hid_in, D.ns, hid_none (.head _), fun p hp => ⟨(D.nw p hp).1, (D.nw p hp).2.1, hid_none (.tail _ (List.mem_map_of_mem hp))⟩, D.nd⟩, st⟩
end basics

section rules
variable {W : Wd} {G : Heap} {L : Addr} {m : List (Str × Value)} {news : List (Addr × (Obj → Prop))} {s : Shared} {A : Around} {E : Value → Shared → Prop}
  {name : Str} {scope : Scope} {a : Addr} {cd : Value} {x : Str} {pos : Pos} {v : Value}

theorem n_loc {Q : Value → Shared → Prop} (D : Led W G L m news s) (hv : lk m x = some v) (h : Q v s)
    (hk : scope.kind = .function := by rfl) (hl : (envOf name scope L a cd).kindOf x = some .local := by rfl) (hd : (x == ("__debug__" : Str)) = false := by decide) :
    wpAny (model pw W.w) A (eval (.Name x pos) (envOf name scope L a cd)) Q E s := by
  obtain ⟨m₀, hn, hm⟩ := D.ns
  exact wpAny_Name (wpAny_loadName_local hk hl hn (hm x v hv) h) hd


theorem n_glb {Q : Value → Shared → Prop} (D : Led W G L m news s) (hv : W.mg x = some v) (h : Q v s)
    (hk : scope.kind = .function := by rfl) (hl : (envOf name scope L a cd).kindOf x = some .globalImplicit := by rfl) (hd : (x == ("__debug__" : Str)) = false := by decide) :
    wpAny (model pw W.w) A (eval (.Name x pos) (envOf name scope L a cd)) Q E s :=
  Calls.Name_function_global hk hl (Calls.loadGlobal_global (env := envOf name scope L a cd) D.hs.g hv h) hd
theorem n_blt {Q : Value → Shared → Prop} (D : Led W G L m news s) (hn : W.mg x = none) (hv : bootBuiltins x = some v) (h : Q v s)
    (hk : scope.kind = .function := by rfl) (hl : (envOf name scope L a cd).kindOf x = some .globalImplicit := by rfl) (hd : (x == ("__debug__" : Str)) = false := by decide)
    (hx : x ≠ "__name__" := by decide) : wpAny (model pw W.w) A (eval (.Name x pos) (envOf name scope L a cd)) Q E s :=
  Calls.Name_function_global hk hl (Calls.loadGlobal_builtin (env := envOf name scope L a cd) D.hs.g hn D.hs.b ((D.hs.st.bi x hx).trans hv) h) hd

theorem mg_some (S : Sta W) (h : nsIn (hd.heap_39 W.w.params) mainGlobals x = some (some v)) : W.mg x = some v := mg_of S.X S.g h
theorem mg_none (S : Sta W) (h : nsIn (hd.heap_39 W.w.params) mainGlobals x = some none) : W.mg x = none := mg_none_of S.X S.g h

/-- a local name is stored -/
theorem s_loc {Q : Unit → Shared → Prop} (D : Led W G L m news s) (h : ∀ s', Led W G L ((x, v) :: m) news s' → Q () s')
    (hk : scope.kind = .function := by rfl) (hl : (envOf name scope L a cd).kindOf x = some .local := by rfl) :
    wpAny (model pw W.w) A (storeName (envOf name scope L a cd) x v) Q E s := by
  obtain ⟨m₀, hn, hm⟩ := D.ns
  refine wpAny_storeName_local hl hn (fun h' hn' hs => h _ ⟨D.hs.to fun b o e => (hs.2 b fun z => ?_).trans (D.hs.keep b o e), ⟨_, hn', fun y u e => ?_⟩, D.off, fun p hp => ?_, D.nd⟩)
    (by show (scope.kind == .class || (scope.kind == .module && L != mainGlobals)) = false; rw [hk]; rfl)
  · have z : b = L := z
    rw [z, D.off] at e; cases e
  · unfold lk at e
    split at e
    · rename_i hy; rw [if_pos hy]; exact e
    · rename_i hy; rw [if_neg hy]; exact hm y u e
  · obtain ⟨⟨o, e, z⟩, r⟩ := D.nw p hp
    exact ⟨⟨o, (hs.2 p.1 r.1).trans e, z⟩, r⟩
end rules

section inst
variable {W : Wd} {s : Shared} {A : Around} {E : Value → Shared → Prop} {C x dx : Addr} {es es' : List DictEntry} {n n' : Nat} {name : Str} {v : Value} {K : Frag}

theorem instAt (hx : s.heap.get? x = some (instObj C dx)) (hdx : s.heap.get? dx = some (dictOf es n)) : PySem.W.InstAt s.heap x (instObj C dx) C (some (dictOf es n)) := ⟨hx, rfl, rfl, hdx⟩

theorem i_get {expr : Bool} {Q : Value → Shared → Prop} {attr : Option Value} (X : K.In s.heap) (hx : s.heap.get? x = some (instObj C dx)) (hdx : s.heap.get? dx = some (dictOf es n))
    (hg : plainGet K C name = true) (hh : hasDictIn K C = true) (ha : findIn K (.ref C) name = some attr) (hn : noGet K attr = true) (hl : getL name es = some (some v)) (hv : handedIn v = true)
    (h : Q v { s with toks := s.toks + 1 }) : wpAny (model pw W.w) A (getAttr (.ref x) name expr) Q E s :=
  get_value X (instAt hx hdx) (plainGet_of hg).1 (findObj_own hh ha hn hl) hv h

theorem i_meth {pl : Sem Bool} {Q : Value × List Value → Shared → Prop} {f : Addr} (X : K.In s.heap) (hx : s.heap.get? x = some (instObj C dx)) (hdx : s.heap.get? dx = some (dictOf es n))
    (hg : plainGet K C name = true) (hf : findIn K (.ref C) name = some (some (.ref f))) (ht : isFn K (.ref f) = true) (hl : getL name es = some none) (h : Q (.ref f, [.ref x]) s) :
    wpAny (model pw W.w) A (getMethod (.ref x) name pl) Q E s :=
  method_fn X (instAt hx hdx) (plainGet_of hg).1 (plainGet_of hg).2 hf (beq_iff_eq.mp ht) (by show (lookIn name (dictOf es n)).map _ = _; rw [lookIn_dict, hl]; rfl) h

theorem i_osa {R : Result → Shared → Prop} {tk : Tok} (X : K.In s.heap) (hx : s.heap.get? x = some (instObj C dx)) (hdx : s.heap.get? dx = some (dictOf es n))
    (hp : plainOver K C = true) (ht : takerIn K C name = some none) (hh : hasDictIn K C = true) (hl : (getL name es).isSome = true)
    (hz : (putL name (PyData.keyHash W.w.params name) (.str name s.toks) v es).length ≤ 1000)
    (h : ∀ h', (∀ b o, s.heap.get? b = some o → b ≠ dx → h'.get? b = some o) →
      h'.get? dx = some (dictOf (putL name (PyData.keyHash W.w.params name) (.str name s.toks) v es) (putN name es n)) → R (.ok (.ret .none)) { s with heap := h', toks := s.toks + 1 }) :
    codeAny (model pw W.w) A (.call (.builtin "object.__setattr__") ⟨[.ref x, .str name tk, v], []⟩) R s := by
  have I := instAt hx hdx
  refine osa_open X I hp ht fun b => ?_
  obtain ⟨cd, hc, hd'⟩ := any_some hh
  have e := putName_dict name (PyData.keyHash W.w.params name) (.str name s.toks) v es n
  have D' := Heap.get?_update_self (Obj.putName name (PyData.keyHash W.w.params name) (.str name s.toks) v) hdx (by rw [e]; rfl)
  refine wpAny_bind (wpAny_pure (wpAny_bind (wpAny_bind (wpAny_loadPart hx (wpAny_bind ((looks_clsIn X hc).here ?_))))))
  rw [hd']
  refine wpAny_pure (a := some dx) (wpAny_bind (wpAny_pure (wpAny_bind ?_)))
  unfold nsSet
  refine wpAny_bind (wpAny_bind (wpAny_askSetting (wpAny_pure (wpAny_bind (wpAny_mkText (wpAny_bind (wpAny_loadPart hdx ?_)))))))
  have c : (!es.any (·.key.isStr name) && es.any (·.refKey)) = false := by
    unfold getL at hl
    split at hl
    · rename_i en he
      rw [List.any_eq_true.mpr ⟨en, List.mem_of_find?_eq_some he, List.find?_some he⟩]; rfl
    · split at hl
      · cases hl
      · rename_i z; rw [Bool.not_eq_true] at z; rw [z, Bool.and_false]
  dsimp only
  rw [aRefKeyMayBeTheName_at, ← Array.any_toList, ← Array.any_toList]
  rw [show (!(es.toArray.toList.any fun x => x.key.isStr name) && es.toArray.toList.any fun x => x.refKey) = false from c]
  refine wpAny_updatePart hdx ?_
  refine wpAny_bind (wpAny_lookBehind D' (by rw [e]; exact pastItsLine_dict (by rw [List.size_toArray, sizeLine_eq]; lia)) ?_)
  refine wpAny_pure (h _ (fun b o q n => (Heap.get?_update_other _ _ (Ne.symm n)).trans q) ?_)
  rw [← e]; exact D'
theorem i_set {Q : Unit → Shared → Prop} (X : K.In s.heap) (hx : s.heap.get? x = some (instObj C dx)) (hdx : s.heap.get? dx = some (dictOf es n))
    (hs : findIn K (.ref C) "__setattr__" = some (some (.builtin "object.__setattr__"))) (hp : plainOver K C = true) (ht : takerIn K C name = some none) (hh : hasDictIn K C = true) (hl : (getL name es).isSome = true)
    (hz : (putL name (PyData.keyHash W.w.params name) (.str name (s.toks + 1)) v es).length ≤ 1000)
    (h : ∀ h', (∀ b o, s.heap.get? b = some o → b ≠ dx → h'.get? b = some o) →
      h'.get? dx = some (dictOf (putL name (PyData.keyHash W.w.params name) (.str name (s.toks + 1)) v es) (putN name es n)) → Q () { s with heap := h', toks := s.toks + 2 }) :
    wpAny (model pw W.w) A (setAttr (.ref x) name v) Q E s :=
  set_plain X (instAt hx hdx) hs (i_osa (s := { s with toks := s.toks + 1 }) X hx hdx hp ht hh hl hz fun h' a b => h h' a b)
end inst
end Mine
end

section
open PySem PySem.W PyProof.Rows PySem.Calls PySem.Spec
set_option autoImplicit false
namespace Mine
theorem warm (w : World) (h : Heap) : (hd.heap_39 w.params).In h → PySem.Challenge.rw_rh0003_01.prog = PySem.Challenge.rw_rh0003_01.prog := by
  k_fill
  intro _
  rfl

section enter
variable {W : Wd} {G : Heap} {s : Shared} {A : Around} {K : Frag} {R : Result → Shared → Prop} {name qual : Str} {params : Arguments} {body : List Stmt} {scope : Scope} {dV kV doc pm cdv ct oc : Value} {an od : Option Addr} {osl : Array (Option Value)} {f : Addr} {args : Args}
  {news : List (Addr × (Obj → Prop))}

/-- a def of the text is entered -/
theorem enter (binds : List (Str × Value)) (hs : Hs W G s) (hn : ∀ p ∈ news, (∃ o, s.heap.get? p.1 = some o ∧ p.2 o) ∧ G.get? p.1 = none) (nd : (news.map (·.1)).Nodup)
    (ho : (hd.heap_39 W.w.params).lookup f = some ⟨oc, od, .func (fnOf name qual params body scope dV kV doc pm an cdv ct), osl⟩) (hcd : codeIn (hd.heap_39 W.w.params) cdv qual = true) (hroom : A.depth < recursionLimit)
    (hbind : bindArgs (fnOf name qual params body scope dV kV doc pm an cdv ct) args = pure binds) (hloc : (binds.all fun x => decide (scope.names.lookup x.1 = some .local)) = true)
    (hco : scope.isCoroutine = false) (hgen : scope.isGenerator = false) (hk : scope.kind = .function)
    (hcell : ∀ x ∈ scope.names, x.2 ≠ .cell)
    (h : ∀ L s₁, Led W G L binds.reverse news s₁ → s.heap.StaysIn s₁.heap → s.heap.get? L = none →
      wpAny (model pw W.w) (A.deeper (envOf qual scope L f cdv)) (execs body (envOf qual scope L f cdv))
        (fun fl s' => R (.ok (.ret (match fl with | .ret v => v | _ => .none))) s')
        (fun e s' => wpAny (model pw W.w) (A.deeper (envOf qual scope L f cdv)) (leaving (envOf qual scope L f cdv) e) (fun _ s'' => R (.error e) s'') (fun e' s'' => R (.error e') s'') s')
        s₁) : codeAny (model pw W.w) A (.call (.ref f) args) R s := by
  refine codeAny_call_def (fd := fnOf name qual params body scope dV kV doc pm an cdv ct) (body := body) (binds := binds) hroom (hs.X _ _ ho) rfl hs.lim (codeRec_of hs.X hcd) rfl (BindsTo.of_eq hbind) hcell (locs hloc) (fun h₁ hns hk₁ => ?_) hco hgen hk
  have lkr : ∀ (l : List (Str × Value)) y, lk l y = l.lookup y := by
    intro l
    induction l with
    | nil => intro y; rfl
    | cons p r ih =>
      obtain ⟨x, v⟩ := p
      intro y
      show (if y = x then some v else lk r y) = _
      rw [List.lookup_cons]
      by_cases q : y = x
      · subst q; simp
      · rw [if_neg q, ih y, show (y == x) = false from by simp [q]]
  have none : s.heap.get? s.heap.objs.size = none := by
    cases q : s.heap.get? s.heap.objs.size with
    | none => rfl
    | some o => exact absurd (Heap.lt_size q) (Nat.lt_irrefl _)
  have hG : G.get? s.heap.objs.size = .none := by
    cases q : G.get? s.heap.objs.size with
    | none => rfl
    | some o => have := hs.keep _ _ q; rw [none] at this; cases this
  exact h _ { s with heap := h₁, toks := s.toks + binds.length } ⟨hs.to (fun b o e => hk₁ b o (hs.keep b o e)), ⟨_, hns, fun y v e => by rw [← lkr]; exact e⟩, hG,
    fun p hp => let ⟨⟨o, e, q⟩, r⟩ := hn p hp; ⟨⟨o, hk₁ _ _ e, q⟩, Nat.ne_of_lt (Heap.lt_size e), r⟩, nd⟩ hk₁ none
end enter

/-- the reader's object -/
structure RK where
  e1 : Int
  e2 : Int
  e3 : Int
  e4 : Int
  t1 : Tok
  t2 : Tok
  t3 : Tok
  t4 : Tok
  lw : Addr
  u : Tok
  n : Nat
noncomputable abbrev RK.es (r : RK) (p d : Value) : List DictEntry := [⟨r.e1, .str "words" r.t1, .ref r.lw⟩, ⟨r.e2, .str "place" r.t2, p⟩, ⟨r.e3, .str "deep" r.t3, d⟩, ⟨r.e4, .str "most" r.t4, .int 40 r.u⟩]
noncomputable abbrev RK.dict (r : RK) (p d : Value) : Obj := dictOf (r.es p d) r.n

section K
variable {W : Wd}
theorem rplain0 : plainGet (hd.heap_39 W.w.params) 258 "" = true := by k_is
theorem rplain (n : Str) : plainGet (hd.heap_39 W.w.params) 258 n = true := rplain0 (W := W)
theorem rhas : hasDictIn (hd.heap_39 W.w.params) 258 = true := by k_is
theorem rover : plainOver (hd.heap_39 W.w.params) 258 = true := by k_is
theorem rsa : findIn (hd.heap_39 W.w.params) (.ref 258) "__setattr__" = some (some (.builtin "object.__setattr__")) := by k_is
theorem rf_words : findIn (hd.heap_39 W.w.params) (.ref 258) "words" = some none := by k_is
theorem rf_place : findIn (hd.heap_39 W.w.params) (.ref 258) "place" = some none := by k_is
theorem rf_deep : findIn (hd.heap_39 W.w.params) (.ref 258) "deep" = some none := by k_is
theorem rf_most : findIn (hd.heap_39 W.w.params) (.ref 258) "most" = some none := by k_is
theorem rf_word : findIn (hd.heap_39 W.w.params) (.ref 258) "word" = some (some (.ref 166)) := by k_is
theorem ri_word : isFn (hd.heap_39 W.w.params) (.ref 166) = true := by k_is
end K
end Mine
end

section
open PySem PySem.W PyProof.Rows PySem.Calls PySem.Spec
set_option autoImplicit false
namespace Mine
noncomputable abbrev lstOf (its : Array Value) (n : Nat) : Obj := { cls := .type "list", data := .seq its n }
noncomputable abbrev tupOf (vs : List Value) (n : Nat) : Obj := { cls := .type "tuple", data := .seq vs.toArray n }
noncomputable def isL (its : Array Value) (o : Obj) : Prop := ∃ n, o = lstOf its n

noncomputable def RetQ (Q : Value → Shared → Prop) (f : Flow) (s : Shared) : Prop := Q (match f with | .ret v => v | _ => .none) s
noncomputable def LeaveE (W : Wd) (A : Around) (env : Env) (E : Value → Shared → Prop) (e : Value) (s : Shared) : Prop := wpAny (model pw W.w) A (leaving env e) (fun _ s'' => E e s'') (fun e' s'' => E e' s'') s
noncomputable def SeqQ (W : Wd) (A : Around) (rest : List Stmt) (env : Env) (Q : Flow → Shared → Prop) (E : Value → Shared → Prop) (f : Flow) (s : Shared) : Prop := match f with
  | .next => wpAny (model pw W.w) A (execs rest env) Q E s
  | f => Q f s
noncomputable def TurnE (W : Wd) (A : Around) (env : Env) (E : Value → Shared → Prop) : Value → Shared → Prop := notedBy (model pw W.w) A env (cameBackBy (model pw W.w) A env E)

section stm
variable {W : Wd} {G : Heap} {L : Addr} {m : List (Str × Value)} {news : List (Addr × (Obj → Prop))} {s : Shared} {A : Around} {E : Value → Shared → Prop} {env : Env} {rest : List Stmt} {Q : Flow → Shared → Prop}
theorem ret_v {Q : Value → Shared → Prop} {v : Value} (h : Q v s) : RetQ Q (.ret v) s := h
theorem ret_n {Q : Value → Shared → Prop} (h : Q .none s) : RetQ Q .next s := h
theorem seq_next (h : wpAny (model pw W.w) A (execs rest env) Q E s) : SeqQ W A rest env Q E .next s := h
theorem seq_ret {v : Value} (h : Q (.ret v) s) : SeqQ W A rest env Q E (.ret v) s := h
theorem seq_cont (h : Q .cont s) : SeqQ W A rest env Q E .cont s := h
theorem x_nil (h : Q .next s) : wpAny (model pw W.w) A (execs [] env) Q E s := wpAny_execs_nil h
theorem x_ret {e : Expr} {pos : Pos} (h : wpAny (model pw W.w) A (eval e env) (fun v s' => Q (.ret v) s') E s) : wpAny (model pw W.w) A (execs (.Return (some e) pos :: rest) env) Q E s :=
  wpAny_execs_cons (wpAny_Return_some h)
theorem x_asg {x : Str} {p' : Pos} {value : Expr} {pos : Pos} (h : wpAny (model pw W.w) A (eval value env) (fun v s₁ => wpAny (model pw W.w) A (storeName env x v) (fun _ s' => wpAny (model pw W.w) A (execs rest env) Q E s') E s₁) E s)
    (hs : swapsWith value (some (.Name x p')) pos.line env = pure false := by rfl) : wpAny (model pw W.w) A (execs (.Assign [.Name x p'] value pos :: rest) env) Q E s :=
  wpAny_execs_cons (wpAny_Assign_Name h hs)
theorem x_if {test : Expr} {body orelse : List Stmt} {pos : Pos} (h : wpAny (model pw W.w) A (isTrue test env (eval test env)) (fun b s₂ => if b = true then wpAny (model pw W.w) A (execs body env) (SeqQ W A rest env Q E) E s₂ else wpAny (model pw W.w) A (execs orelse env) (SeqQ W A rest env Q E) E s₂) E s) :
    wpAny (model pw W.w) A (execs (.If test body orelse pos :: rest) env) Q E s :=
  wpAny_execs_cons (wpAny_If h)
theorem x_expr {e : Expr} {pos : Pos} (h : wpAny (model pw W.w) A (eval e env) (fun _ s' => wpAny (model pw W.w) A (execs rest env) Q E s') E s) (hi : interactive env = false := by rfl) (hs : swapsWith e none pos.line env = pure false := by rfl) :
    wpAny (model pw W.w) A (execs (.Expr e pos :: rest) env) Q E s := wpAny_execs_cons (wpAny_Expr_any h hi hs)
theorem x_asgA {o : Expr} {attr : Str} {p' : Pos} {value : Expr} {pos : Pos}
    (h : wpAny (model pw W.w) A (eval value env) (fun v s₁ => wpAny (model pw W.w) A (eval o env) (fun ov s₂ => wpAny (model pw W.w) A (setAttr ov attr v) (fun _ s' => wpAny (model pw W.w) A (execs rest env) Q E s') E s₂) E s₁) E s)
    (hs : swapsWith value (some (.Attribute o attr p')) pos.line env = pure false := by rfl) : wpAny (model pw W.w) A (execs (.Assign [.Attribute o attr p'] value pos :: rest) env) Q E s :=
  wpAny_execs_cons (plainObj_wpAny_Assign_Attribute h hs)
theorem x_asgS {o i : Expr} {p' : Pos} {value : Expr} {pos : Pos}
    (h : wpAny (model pw W.w) A (eval value env) (fun v s₁ => wpAny (model pw W.w) A (eval o env) (fun ov s₂ => wpAny (model pw W.w) A (eval i env) (fun iv s₃ => wpAny (model pw W.w) A (setItem ov iv v) (fun _ s' => wpAny (model pw W.w) A (execs rest env) Q E s') E s₃) E s₂) E s₁) E s)
    (hs : swapsWith value (some (.Subscript o i p')) pos.line env = pure false := by rfl) : wpAny (model pw W.w) A (execs (.Assign [.Subscript o i p'] value pos :: rest) env) Q E s :=
  wpAny_execs_cons (wpAny_Assign_Subscript h hs)
theorem x_asgT {elts : List Expr} {k : Nat} {tp : Pos} {value : Expr} {pos : Pos}
    (h : wpAny (model pw W.w) A (eval value env) (fun v s₁ => wpAny (model pw W.w) A (assign (.Tuple elts k tp) env v) (fun _ s' => wpAny (model pw W.w) A (execs rest env) Q E s') E s₁) E s)
    (h1 : swapsWithSole [.Tuple elts k tp] value pos.line env = pure false := by rfl) (h2 : swappedStores [.Tuple elts k tp] value env = pure none := by rfl) :
    wpAny (model pw W.w) A (execs (.Assign [.Tuple elts k tp] value pos :: rest) env) Q E s :=
  wpAny_execs_cons (Assign_Tuple h h1 h2)

theorem x_while {test : Expr} {body : List Stmt} {pos : Pos} (I : Nat → Shared → Prop) (n : Nat) (h0 : I n s)
    (turn : ∀ n s, I n s → wpAny (model pw W.w) A (isTrue test env (eval test env)) (fun b s₂ => if b = true then wpAny (model pw W.w) A (execs body env) (fun f s₃ => match f with
        | .next | .cont => ∃ k, k < n ∧ I k s₃
        | .brk => wpAny (model pw W.w) A (execs rest env) Q E s₃
        | .ret v => Q (.ret v) s₃) (TurnE W A env E) s₂ else wpAny (model pw W.w) A (execs rest env) Q E s₂) (TurnE W A env E) s) :
    wpAny (model pw W.w) A (execs (.While test body [] pos :: rest) env) Q E s := by
  refine wpAny_execs_cons (wpAny_While (codeAny_whileLoop I (fun n s hI => wpAny_mono (turn n s hI) (fun b s₂ h₂ => ?_) fun _ _ z => z) n h0))
  cases b with
  | true =>
    simp only [if_true] at h₂ ⊢
    refine wpAny_mono h₂ (fun f s₃ h₃ => ?_) fun _ _ z => z
    cases f <;> exact h₃
  | false =>
    simp only [Bool.false_eq_true, if_false] at h₂ ⊢
    exact wpAny_execs_nil h₂
end stm

section exp
variable {W : Wd} {G : Heap} {L : Addr} {m : List (Str × Value)} {news : List (Addr × (Obj → Prop))} {s : Shared} {A : Around} {E : Value → Shared → Prop} {env : Env} {Q : Value → Shared → Prop}
theorem e_str {x : Str} {k : Nat} {pos : Pos} (D : Led W G L m news s) (h : ∀ s' t, Led W G L m news s' → Q (.str x t) s') : wpAny (model pw W.w) A (eval (.Constant (.str x) k pos) env) Q E s :=
  wpAny_Constant_str (h _ _ (D.tok _))
theorem e_int {i : Int} {k : Nat} {pos : Pos} (D : Led W G L m news s) (h : ∀ s' t, Led W G L m news s' → Q (.int i t) s') : wpAny (model pw W.w) A (eval (.Constant (.int i) k pos) env) Q E s :=
  wpAny_Constant_int (h _ _ (D.tok _))

theorem enterC {news : List (Addr × (Obj → Prop))} {name qual : Str} {params : Arguments} {body : List Stmt} {scope : Scope} {dV kV doc pm cdv ct oc : Value} {an od : Option Addr} {osl : Array (Option Value)} {f : Addr} {args : List Value} (m : List (Str × Value)) (hs : Hs W G s) (hn : ∀ p ∈ news, (∃ o, s.heap.get? p.1 = some o ∧ p.2 o) ∧ G.get? p.1 = none) (nd : (news.map (·.1)).Nodup)
    (ho : (hd.heap_39 W.w.params).lookup f = some ⟨oc, od, .func (fnOf name qual params body scope dV kV doc pm an cdv ct), osl⟩) (hcd : codeIn (hd.heap_39 W.w.params) cdv qual = true) (hroom : A.depth < recursionLimit)
    (hbind : bindArgs (fnOf name qual params body scope dV kV doc pm an cdv ct) ⟨args, []⟩ = pure m.reverse) (hloc : (m.reverse.all fun x => decide (scope.names.lookup x.1 = some .local)) = true)
    (hco : scope.isCoroutine = false) (hgen : scope.isGenerator = false) (hk : scope.kind = .function)
    (hcell : ∀ x ∈ scope.names, x.2 ≠ .cell)
    (h : ∀ L s₁, Led W G L m news s₁ → s.heap.StaysIn s₁.heap → s.heap.get? L = none →
      wpAny (model pw W.w) (A.deeper (envOf qual scope L f cdv)) (execs body (envOf qual scope L f cdv)) (RetQ Q) (LeaveE W (A.deeper (envOf qual scope L f cdv)) (envOf qual scope L f cdv) E) s₁) :
    wpAny (model pw W.w) A (call (.ref f) args) Q E s :=
  wpAny_call (enter m.reverse hs hn nd ho hcd hroom hbind hloc hco hgen hk hcell fun L s₁ D st hL => h L s₁ (by rw [List.reverse_reverse] at D; exact D) st hL)
end exp


section bridge
variable {W : Wd} {G : Heap} {L : Addr} {m : List (Str × Value)} {news : List (Addr × (Obj → Prop))} {s : Shared}
noncomputable def allN (h : Heap) (ds : List Addr) : List (Addr × Obj) := (List.range h.objs.size).filterMap fun b => if b ∈ ds then none else (h.get? b).map fun o => (b, o)
theorem mem_allN {h : Heap} {ds : List Addr} {p : Addr × Obj} : p ∈ allN h ds ↔ p.1 ∉ ds ∧ h.get? p.1 = some p.2 := by
  unfold allN
  rw [List.mem_filterMap]
  constructor
  · rintro ⟨b, _, e⟩
    split at e
    · cases e
    · rename_i hb
      obtain ⟨o, ho, rfl⟩ := Option.map_eq_some_iff.mp e
      exact ⟨hb, ho⟩
  · rintro ⟨h1, h2⟩
    exact ⟨p.1, List.mem_range.mpr (Heap.lt_size h2), by rw [if_neg h1, h2]; rfl⟩
theorem get_nil (b : Addr) : ({} : Heap).get? b = none := by simp [Heap.get?]
theorem fr_nil {h : Heap} {m₀ : Str → Option Value} (hn : h.Ns L m₀) : Fr {} L h m₀ := ⟨hn, (fun b o e => by rw [get_nil] at e; cases e), Nat.zero_le _⟩
theorem news_all (ds : List Addr) (hL : L ∈ ds) (h : Heap) : News {} L h (allN h ds) := fun p hp => ⟨(mem_allN.mp hp).2, fun e => (mem_allN.mp hp).1 (e ▸ hL), get_nil _⟩
theorem Led.keptL {m₀ : Str → Option Value} {s' : Shared} (D : Led W G L m news s) (hm : ∀ y v, lk m y = some v → m₀ y = some v) (hn : s'.heap.Ns L m₀) (k : ∀ b o, s.heap.get? b = some o → b ≠ L → s'.heap.get? b = some o)
    (hg : s'.gens = s.gens := by rfl) (ho : s'.os = s.os := by rfl) : Led W G L m news s' := by
  refine ⟨D.hs.to (fun b x e => k b x (D.hs.keep b x e) fun z => ?_) hg ho, ⟨m₀, hn, hm⟩, D.off, fun p hp => ?_, D.nd⟩
  · rw [z, D.off] at e; cases e
  · obtain ⟨⟨o, e, z⟩, r⟩ := D.nw p hp
    exact ⟨⟨o, k _ _ e r.1, z⟩, r⟩
theorem Led.chgL {pre post : List (Addr × (Obj → Prop))} {d : Addr} {P P' : Obj → Prop} {m₀ : Str → Option Value} {s' : Shared} (D : Led W G L m (pre ++ (d, P) :: post) s) (hm : ∀ y v, lk m y = some v → m₀ y = some v) (hn : s'.heap.Ns L m₀)
    (k : ∀ b x, s.heap.get? b = some x → b ≠ L → b ≠ d → s'.heap.get? b = some x) (h : ∃ o, s'.heap.get? d = some o ∧ P' o) (hg : s'.gens = s.gens := by rfl) (ho : s'.os = s.os := by rfl) :
    Led W G L m (pre ++ (d, P') :: post) s' := by
  have hd := D.nw (d, P) (by simp)
  have nd := D.nd
  rw [List.map_append, List.map_cons, List.nodup_append] at nd
  have n1 : ∀ p ∈ pre, p.1 ≠ d := fun p hp => nd.2.2 p.1 (List.mem_map_of_mem hp) d (.head _)
  have n2 : ∀ p ∈ post, p.1 ≠ d := fun p hp e => (List.nodup_cons.mp nd.2.1).1 (by rw [← e]; exact List.mem_map_of_mem (f := (·.1)) hp)
  refine ⟨D.hs.to (fun b x e => k b x (D.hs.keep b x e) (fun z => ?_) fun z => ?_) hg ho, ⟨m₀, hn, hm⟩, D.off, ?_, ?_⟩
  · rw [z, D.off] at e; cases e
  · rw [z, hd.2.2] at e; cases e
  · intro p hp
    rcases List.mem_append.mp hp with q | q
    · obtain ⟨⟨o', e, z⟩, r⟩ := D.nw p (List.mem_append_left _ q)
      exact ⟨⟨o', k _ _ e r.1 (n1 p q), z⟩, r⟩
    · rcases List.mem_cons.mp q with rfl | q
      · exact ⟨h, hd.2⟩
      · obtain ⟨⟨o', e, z⟩, r⟩ := D.nw p (List.mem_append_right _ (.tail _ q))
        exact ⟨⟨o', k _ _ e r.1 (n2 p q), z⟩, r⟩
  · rw [List.map_append, List.map_cons, List.nodup_append]
    exact nd
/-- a fresh place joins -/
theorem Led.more {d : Addr} {P : Obj → Prop} (D : Led W G L m news s) (h : ∃ o, s.heap.get? d = some o ∧ P o) (hG : G.get? d = none) (hL : d ≠ L) (hd : ∀ p ∈ news, p.1 ≠ d) : Led W G L m ((d, P) :: news) s :=
  ⟨D.hs, D.ns, D.off, fun p hp => (List.mem_cons.mp hp).elim (fun e => by subst e; exact ⟨h, hL, hG⟩) (D.nw p), by
    rw [List.map_cons, List.nodup_cons]
    exact ⟨fun hm => by obtain ⟨p, hp, e⟩ := List.mem_map.mp hm; exact hd p hp e, D.nd⟩⟩
theorem Led.fresh (D : Led W G L m news s) : G.get? s.heap.objs.size = none ∧ s.heap.objs.size ≠ L ∧ ∀ p ∈ news, p.1 ≠ s.heap.objs.size := by
  obtain ⟨m₀, hn, _⟩ := D.ns
  refine ⟨?_, Nat.ne_of_gt hn.lt, fun p hp e => ?_⟩
  · cases q : G.get? s.heap.objs.size with
    | none => rfl
    | some o' => exact absurd (Heap.lt_size (D.hs.keep _ _ q)) (Nat.lt_irrefl _)
  · obtain ⟨⟨o, h, _⟩, _⟩ := D.nw p hp
    exact absurd (Heap.lt_size h) (by rw [e]; exact Nat.lt_irrefl _)
theorem Led.update {pre post : List (Addr × (Obj → Prop))} {d : Addr} {P P' : Obj → Prop} (D : Led W G L m (pre ++ (d, P) :: post) s) (f : Obj → Obj) (hf : ∀ o, P o → (f o).isFreed = false ∧ P' (f o)) :
    Led W G L m (pre ++ (d, P') :: post) { s with heap := s.heap.update d f } := by
  obtain ⟨⟨o, e, z⟩, _⟩ := D.nw (d, P) (by simp)
  exact D.chg (fun b x q n => (Heap.get?_update_other _ _ (Ne.symm n)).trans q) ⟨_, Heap.get?_update_self f e (hf o z).1, (hf o z).2⟩
end bridge

section lists
variable {W : Wd} {G : Heap} {L : Addr} {m : List (Str × Value)} {news pre post : List (Addr × (Obj → Prop))} {s : Shared} {A : Around} {E : Value → Shared → Prop} {Q : Value → Shared → Prop} {l b : Addr} {its its2 : Array Value} {env : Env}
theorem isL_get (h : ∃ o, s.heap.get? l = some o ∧ isL its o) : ∃ n, s.heap.get? l = some (lstOf its n) := by
  obtain ⟨o, e, n, rfl⟩ := h; exact ⟨n, e⟩
theorem isList_of {h : Heap} {l : Addr} {its : Array Value} {n : Nat} (e : h.get? l = some (lstOf its n)) : h.IsList l its := ⟨_, e, rfl, n, rfl⟩
theorem isTup_of {h : Heap} {l : Addr} {vs : List Value} {n : Nat} (e : h.get? l = some (tupOf vs n)) : IsTup h l vs.toArray := ⟨_, e, rfl, n, rfl⟩
theorem isList_isL (h : ∃ o, s.heap.get? l = some o ∧ isL its o) : s.heap.IsList l its := let ⟨_, e⟩ := isL_get h; isList_of e

theorem l_new {vs : List Value} (D : Led W G L m news s) (hz : vs.length ≤ sizeLine) (h : ∀ a s', Led W G L m ((a, isL vs.toArray) :: news) s' → Q (.ref a) s') : wpAny (model pw W.w) A (newList vs) Q E s :=
  wpAny_newList (h _ _ (D.push _ _ ⟨0, rfl⟩ rfl)) hz
theorem t_new {vs : List Value} (D : Led W G L m news s) (hz : vs.length ≤ sizeLine) (h : ∀ a s', Led W G L m ((a, (· = tupOf vs 0)) :: news) s' → Q (.ref a) s') : wpAny (model pw W.w) A (newTuple vs) Q E s :=
  wpAny_newTuple (h _ _ (D.push _ _ rfl rfl)) hz

theorem l_append {v : Value} (D : Led W G L m (pre ++ (l, isL its) :: post) s) (hz : its.size ≤ sizeLine) (h : ∀ s', Led W G L m (pre ++ (l, isL (its.push v)) :: post) s' → Q .none s') :
    wpAny (model pw W.w) A (call (.builtin "list.append") [.ref l, v]) Q E s := by
  obtain ⟨n, e⟩ := isL_get (D.nw (l, isL its) (by simp)).1
  refine wpAny_list_append_plain ⟨n, e⟩ (fun h' hl hs => h _ (D.chg (fun b x q ne => (hs.2 b ne).trans q) ?_)) hz
  obtain ⟨n', e'⟩ := hl
  exact ⟨_, e', n', rfl⟩

theorem l_meth {o : Expr} {name : Str} {id : String} {p1 p2 p3 : Pos} {args : List Expr} {pl : Sem Bool} (S : Slot "list" name id) (hT : typeOf (.builtin id) = pure (.type "method_descriptor")) 
    (h : wpAny (model pw W.w) A (eval o env) (fun ov s₁ => ∃ l n its, ov = .ref l ∧ s₁.heap.get? l = some (lstOf its n) ∧ wpAny (model pw W.w) A (callWith p3 (.builtin id) [.ref l] (backTo p3 (starEach args env)) []) Q E s₁) E s)
    (he : eval (.Call (.Attribute o name p2) args [] p3) env = (do let ov ← eval o env; standAt p2.atName; let (f, first) ← holding [ov] (getMethod ov name pl); callWith p3 f first (backTo p3 (starEach args env)) []) := by with_unfolding_all rfl) :
    wpAny (model pw W.w) A (eval (.Call (.Attribute o name p2) args [] p3) env) Q E s := by
  refine MethodCall_ (pl := pl) (wpAny_mono h (fun ov s₁ h₁ => ?_) fun _ _ z => z) he
  obtain ⟨l, n, its, rfl, e, h₂⟩ := h₁
  exact getMethod_builtin (isList_of e).typeIs PySem.F.plainAttrs_list S hT (fun a q => by cases q; exact ⟨_, e, rfl⟩) h₂
end lists
end Mine
end

section
open PySem PySem.W PyProof.Rows PySem.Calls PySem.Spec
set_option autoImplicit false
namespace Mine
theorem warmd (w : World) (h : Heap) : (hd.heap_39 w.params).In h → PySem.Challenge.rw_rh0003_01.prog = PySem.Challenge.rw_rh0003_01.prog := by
  k_fill
  intro _
  rfl

structure Rdr (G : Heap) (x dx : Addr) (r : RK) (ws : List (Str × Int)) : Prop where
  inst : G.get? x = some (instObj 258 dx)
  lst : ∃ (items : Array Value) (n : Nat), G.get? r.lw = some (lstOf items n) ∧ ∀ (i : Nat) (w : Str) (sp : Int), ws[i]? = some (w, sp) → ∃ (ta n t t' : Nat), items[i]? = some (Value.ref ta) ∧ G.get? ta = some (tupOf [.str w t, .int sp t'] n)
  len : ws.length < 1000000
  ok : ∀ q ∈ ws, q.1.cps.all (· < 128) = true ∧ q.1.cps.size ≤ 100
theorem Rdr.mono {G G' : Heap} {x dx : Addr} {r : RK} {ws : List (Str × Int)} (R : Rdr G x dx r ws) (k : G.StaysIn G') : Rdr G' x dx r ws :=
  ⟨k _ _ R.inst, let ⟨items, n, a, b⟩ := R.lst; ⟨items, n, k _ _ a, fun i w sp e => let ⟨ta, n, t, t', c, d⟩ := b i w sp e; ⟨ta, n, t, t', c, k _ _ d⟩⟩, R.len, R.ok⟩

/-- the dict of the reader -/
noncomputable def isR (r : RK) (p d : Nat) (o : Obj) : Prop := ∃ t u : Tok, o = r.dict (.int p t) (.int d u)

section
variable {W : Wd} {G : Heap} {L : Addr} {m : List (Str × Value)} {news pre post : List (Addr × (Obj → Prop))} {s : Shared} {A : Around} {E : Value → Shared → Prop} {Q : Value → Shared → Prop} {x dx : Addr} {r : RK} {ws : List (Str × Int)} {p d : Nat}

theorem Hs.all (h : Hs W G s) : Hs W s.heap s := h.up h.keep fun _ _ e => e

theorem li_get {value slice : Expr} {l : Addr} {its : Array Value} {n : Nat} {i : Int} {k : Nat} {u : Tok} {v : Value} (hl : s.heap.get? l = some (lstOf its n)) (hi : i = (k : Int)) (hk : k < 2 ^ 63) (hx : its[k]? = some v) (h : Q v s)
    (hs : subscripted slice false (.ref l) (.int i u) = operate [.ref l, .int i u] (getItem (.ref l) (.int i u)) := by with_unfolding_all rfl) :
    wpAny (model pw W.w) A (subscriptTail value slice (.ref l) (.int i u)) Q E s := by
  subst hi
  exact tail_any (isList_of hl).typeIs slot_list_getitem.lookup (wpAny_getItem_list (isList_of hl) (Int.natCast_nonneg k) (by lia) (by simpa using hx) h) hs
theorem tu_get {value slice : Expr} {l : Addr} {vs : List Value} {n : Nat} {i : Int} {u : Tok} {j : Nat} {v : Value} (hl : s.heap.get? l = some (tupOf vs n)) (hlo : -(2 ^ 63) ≤ i) (hhi : i < 2 ^ 63)
    (hj : seqIndex? i vs.length = some j) (hx : vs[j]? = some v) (h : Q v s)
    (hs : subscripted slice false (.ref l) (.int i u) = operate [.ref l, .int i u] (getItem (.ref l) (.int i u)) := by with_unfolding_all rfl) :
    wpAny (model pw W.w) A (subscriptTail value slice (.ref l) (.int i u)) Q E s := item_tupleT (isTup_of hl) hlo hhi hj hx h hs

/-- an attribute of the reader, by a local name -/
theorem r_attr {o name : Str} {p1 p2 : Pos} {v : Value} {es : List DictEntry} {n : Nat} {qn : Str} {sc : Scope} {fa : Addr} {cd : Value} (D : Led W G L m news s) (hv : lk m o = some (.ref x)) (hx : G.get? x = some (instObj 258 dx)) (hdx : s.heap.get? dx = some (dictOf es n))
    (ha : findIn (hd.heap_39 W.w.params) (.ref 258) name = some .none) (hl : getL name es = some (some v)) (hh : handedIn v = true) (h : ∀ s', Led W G L m news s' → s'.heap = s.heap → Q v s')
    (hk : sc.kind = .function := by rfl) (hlo : (envOf qn sc L fa cd).kindOf o = some .local := by rfl) (hdb : (o == ("__debug__" : Str)) = false := by decide)
    (he : eval (.Attribute (.Name o p1) name p2) (envOf qn sc L fa cd) = (do let o' ← eval (.Name o p1) (envOf qn sc L fa cd); standAt p2.atName; let r ← holding [o'] (getAttr o' name true); letTemporaryGo (.Name o p1) o' r; pure r) := by with_unfolding_all rfl) :
    wpAny (model pw W.w) A (eval (.Attribute (.Name o p1) name p2) (envOf qn sc L fa cd)) Q E s :=
  Attribute_Name_ (n_loc D hv (i_get D.hs.X (D.at hx) hdx (rplain _) rhas ha rfl hl hh (h _ (D.tok _) rfl)) hk hlo hdb) he

theorem c_word {w : Str} {sp : Int} (hs : Hs W G s) (R : Rdr G x dx r ws) (hdx : ∃ o, s.heap.get? dx = some o ∧ isR r p d o) (hw : ws[p]? = some (w, sp)) (hd : A.depth < recursionLimit)
    (k : ∀ s' t, Hs W s.heap s' → Q (.str w t) s') : wpAny (model pw W.w) A (call (.ref 166) [.ref x]) Q E s := by
  have R := R.mono hs.keep
  refine hideP fun PH1 hPH1 => ?_
  obtain ⟨_, hdx, tp, td, rfl⟩ := hdx
  subst hPH1
  obtain ⟨items, n, hl, hi⟩ := R.lst
  refine hideP fun PH2 hPH2 => ?_
  obtain ⟨ta, n', t, t', h1, h2⟩ := hi p w sp hw
  subst hPH2
  have hp : p < 2 ^ 63 := by
    have := (List.getElem?_eq_some_iff.mp hw).1
    have := R.len
    lia
  refine enterC [("self", .ref x)] (news := []) hs.all (fun _ h => nomatch h) List.nodup_nil (by k_is) (by k_is) hd rfl rfl rfl rfl rfl (by decide) fun L s₁ D st hL => ?_
  with_reducible refine x_ret ?_
  with_reducible refine Subscript_ ?_
  with_reducible refine Subscript_ ?_
  refine r_attr D lk_hd R.inst (D.at hdx) rf_words rfl rfl fun s₂ D₂ e₂ => ?_
  refine r_attr D₂ lk_hd R.inst (D₂.at hdx) rf_place rfl rfl fun s₃ D₃ e₃ => ?_
  refine li_get (D₃.at hl) rfl hp h1 ?_
  refine e_int D₃ fun s₄ t₄ D₄ => ?_
  refine tu_get (D₄.at h2) (by decide) (by decide) rfl rfl ?_
  exact ret_v (k _ _ D₄.hs)
end
end Mine
end

section
open PySem
set_option autoImplicit false
namespace Mine
section
variable {M : Model} {prog : Program} {w : World} {A : Around} {E : Value → Shared → Prop} {h : Heap} {g : Array GenState} {d : Drawn} {t : Nat} {os : OsState}
variable {nm q : Str} {C N : Addr} {bs bm bmB : List Value} {hdct : Bool} {sn : List Str} {sub : List Value} {ab : Bool} {col : Option Bool} {dd : Option Addr} {k0 k1 k2 k3 k5 : Option Value} {B newId initId : String}

theorem ex_check_new (F : ExcBaseFacts B newId initId bmB) (hB : bm.contains (.type B) = true) {rest : List Value} {Q : Unit → Shared → Prop} (hC : h.get? C = some (excClassObj nm q C N bs bm hdct sn sub ab col dd k0 k1 k2 k3 k5 newId))
    (hq : Q () ⟨h, g, d, t, os⟩) : wpAny M A (checkBuiltinCall newId ⟨.ref C :: rest, []⟩) Q E ⟨h, g, d, t, os⟩ := by
  have hcont : (Value.ref C :: bm).contains (.type B) = true := by rw [List.contains_cons, hB, Bool.or_true]
  have hstar := F.noStar
  simp only [checkBuiltinCall, F.newKind, F.newSplit, F.newRow]
  repeat (first | refine wpAny_loadPart_at hC ?_ | (refine wpAny_isSubtype_exc hC ?_; rw [hcont]) | refine wpAny_staticBase_exc hC ?_ | refine wpAny_madeBy_exc hC ?_ | simp only [bne_self_eq_false, Bool.false_eq_true, if_false] | wp_step)
  exact hq

theorem ex_new {R : Result → Shared → Prop} (F : ExcBaseFacts B newId initId bmB) (hB : bm.contains (.type B) = true) (nA : bm.contains (.type "AttributeError") = false) (nN : bm.contains (.type "NameError") = false) {rest : List Value} (hC : h.get? C = some (excClassObj nm q C N bs bm hdct sn sub ab col dd k0 k1 k2 k3 k5 newId))
    (hq : R (.ok (.ret (.ref (h.objs.size + 1)))) ⟨(h.push { cls := .type "tuple", data := .seq rest.toArray }).push
      { cls := .ref C, data := .fields #[.ref h.objs.size, .none, .none, .none, .bool false, .none] }, g, d, t, os⟩) (hrest : rest.length ≤ sizeLine := by size_fits) :
    codeAny (model prog w) A (.builtin newId ⟨.ref C :: rest, []⟩) R ⟨h, g, d, t, os⟩ := by
  have hends := F.ends
  have hcB : (Value.ref C :: bm).contains (.type B) = true := by rw [List.contains_cons, hB, Bool.or_true]
  have hcA : (Value.ref C :: bm).contains (.type "AttributeError") = false := by rw [List.contains_cons, nA]; rfl
  have hcN : (Value.ref C :: bm).contains (.type "NameError") = false := by rw [List.contains_cons, nN]; rfl
  refine codeAny_builtinAt F.entry ?_
  unfold Builtin.«BaseException.__new__»
  refine wpAt_bind ?_
  show wpAt _ _ _ (stack >>= _) _ _ _
  refine wpAt_bind (wpAt_stack fun p below => wpAt_of_wpAny ?_)
  wp_walk
  refine wpAt_of_wpAny ?_
  rw [F.owner]
  repeat (first | with_reducible refine wpAny_madeHere_exc F.canon hC ?_ | with_reducible refine wpAny_loadPart_at hC ?_ | (with_reducible refine wpAny_isSubtype_exc hC ?_; first | rw [hcB] | rw [hcA] | rw [hcN]) | wp_step)
  show R _ _
  rw [Heap.size_push]
  exact hq

theorem ex_type_call (F : ExcBaseFacts B newId initId bmB) (hB : bm.contains (.type B) = true) (nA : bm.contains (.type "AttributeError") = false) (nN : bm.contains (.type "NameError") = false) {rest : List Value} {fI : Addr} {oI : Obj} {Q : Fin → Shared → Prop}
    (hC : h.get? C = some (excClassObj nm q C N bs bm hdct sn sub ab col dd k0 k1 k2 k3 k5 newId)) (hlk : PySem.W.Looks (model prog w) h (typeLookup (.ref C) "__init__") (some (.ref fI)))
    (hfI : h.get? fI = some oI) (hfc : oI.cls = .type "function")
    (hq : ∀ h' e, Heap.MadeExcOf h h' e (.ref C) rest →
      wpAny (model prog w) A (call (.ref fI) (.ref e :: rest)) (fun r s' => r = .none ∧ Q (.done (.ret (.ref e))) s') E ⟨h', g, d, t, os⟩) (hrest : rest.length ≤ sizeLine := by size_fits) :
    wpAny (model prog w) A (Builtin.«type.__call__» ⟨.ref C :: rest, []⟩) Q E ⟨h, g, d, t, os⟩ := by
  repeat (first | with_reducible refine wpAny_loadPart_at hC ?_ | with_reducible refine wpAny_madeBy_exc hC ?_ | wp_step)
  refine codeAny_call_builtin_code (Code.quiet_builtin _ F.quiet) (ex_check_new F hB hC ?_)
  refine ex_new F hB nA nN hC ?_ hrest
  show wpAny _ _ _ _ _ _
  have hC₁ := Heap.get?_push_of_some { cls := .ref C, data := .fields #[.ref h.objs.size, .none, .none, .none, .bool false, .none] }
    (Heap.get?_push_of_some { cls := .type "tuple", data := .seq rest.toArray } hC)
  have hfI₁ := Heap.get?_push_of_some { cls := .ref C, data := .fields #[.ref h.objs.size, .none, .none, .none, .bool false, .none] }
    (Heap.get?_push_of_some { cls := .type "tuple", data := .seq rest.toArray } hfI)
  have hlk₁ := hlk.keeps (h' := (h.push { cls := .type "tuple", data := .seq rest.toArray }).push { cls := .ref C, data := .fields #[.ref h.objs.size, .none, .none, .none, .bool false, .none] }) fun b o e => Heap.get?_push_of_some _ (Heap.get?_push_of_some _ e)
  have hget : ((h.push { cls := .type "tuple", data := .seq rest.toArray }).push
      { cls := .ref C, data := .fields #[.ref h.objs.size, .none, .none, .none, .bool false, .none] }).get? (h.objs.size + 1) = some
      { cls := .ref C, data := .fields #[.ref h.objs.size, .none, .none, .none, .bool false, .none] } := by heap_get
  have hcC : (Value.ref C :: bm).contains (.ref C) = true := by simp
  unfold isInstance
  repeat (first | with_reducible refine wpAny_loadPart_at hget ?_ | (with_reducible refine wpAny_isSubtype_exc hC₁ ?_; rw [hcC]) | wp_step)
  show wpAny _ _ (typeLookup (.ref C) _) _ _ _
  refine hlk₁.at ?_
  refine wpAny_holding (wpAny_bind ?_)
  unfold bindSpecial
  refine wpAny_bind (wpAny_typeOf (T := "function") ⟨_, hfI₁, hfc⟩ ?_)
  first | refine if_yes rfl ?_ | rw [if_pos (by decide)]
  refine wpAny_pure (wpAny_bind (wpAny_mono (hq _ (h.objs.size + 1) ⟨fun b o hb => Heap.get?_push_of_some _ (Heap.get?_push_of_some _ hb), Heap.get?_none_of_le (Nat.le_succ _), h.objs.size, hget, Heap.get?_none_of_le (Nat.le_refl _), ?_⟩) (fun r s' hr => ?_) fun _ _ x => x))
  · exact Heap.get?_push_of_some _ (Heap.get?_push_at rfl rfl)
  · obtain ⟨rfl, hQ⟩ := hr
    wp_walk
    exact hQ

theorem ex_call (F : ExcBaseFacts B newId initId bmB) (hB : bm.contains (.type B) = true) (nA : bm.contains (.type "AttributeError") = false) (nN : bm.contains (.type "NameError") = false) {rest : List Value} {fI : Addr} {oI : Obj} {Q : Value → Shared → Prop}
    (hC : h.get? C = some (excClassObj nm q C N bs bm hdct sn sub ab col dd k0 k1 k2 k3 k5 newId)) (hlk : PySem.W.Looks (model prog w) h (typeLookup (.ref C) "__init__") (some (.ref fI)))
    (hfI : h.get? fI = some oI) (hfc : oI.cls = .type "function")
    (hq : ∀ h' e, Heap.MadeExcOf h h' e (.ref C) rest →
      wpAny (model prog w) (A.under (.builtin "type.__call__" ⟨.ref C :: rest, []⟩)) (call (.ref fI) (.ref e :: rest)) (fun r s' => r = .none ∧ Q (.ref e) s') E ⟨h', g, d, t, os⟩) (hrest : rest.length ≤ sizeLine := by size_fits) :
    wpAny (model prog w) A (call (.ref C) rest) Q E ⟨h, g, d, t, os⟩ := by
  have f1 := tc_lookup
  have f2 := tc_bind (.ref C)
  have hT : (⟨h, g, d, t, os⟩ : Shared).TypeIs (.ref C) "type" := ⟨_, hC, rfl⟩
  refine wpAny_call (codeAny_of_tree ?_)
  show wpAny _ _ (callAny (.ref C) _) _ _ _
  repeat (any_goals (first | assumption | with_reducible refine wpAny_loadPart_at hC ?_ | wp_step))
  refine ⟨rfl, ?_⟩
  refine codeAny_call_builtin_at (Code.quiet_builtin _ (by decide +kernel)) entry_typeCall (wpAny_check_type_call_sub hC (ex_type_call (hrest := hrest) F hB nA nN hC hlk hfI hfc fun h' e hm => ?_))
  exact hq h' e hm
end
end Mine
end

section
open PySem PySem.W PyProof.Rows
set_option autoImplicit false
namespace Mine
theorem warme (w : World) (h : Heap) : (hd.heap_39 w.params).In h → PySem.Challenge.rw_rh0003_01.prog = PySem.Challenge.rw_rh0003_01.prog := by
  k_fill
  intro _
  rfl

theorem sw_get : Slot "wrapper_descriptor" "__get__" "wrapper_descriptor.__get__" := .of (owner := "wrapper_descriptor") (n := "__get__") (by rw [typeLookup_type, builtinLookup_eq_fast]; kernel_rfl) (by decide +kernel) (by decide +kernel) (by decide +kernel)
  (by first | exact .inl (by decide +kernel) | exact .inr (by decide +kernel)) (by rw [isSubtype_type]; kernel_rfl)
theorem en_get : entryFor table "wrapper_descriptor.__get__" = some Builtin.«wrapper_descriptor.__get__» := entryFor_of_tree (by kernel_rfl)
theorem ar_get (a b c : Value) : argsOk "wrapper_descriptor.__get__" ⟨[a, b, c], []⟩ := by unfold argsOk; kernel_rfl
theorem ty_init : typeOf (.builtin "Exception.__init__") = pure (.type "wrapper_descriptor") := by kernel_rfl
noncomputable abbrev supObj (D x C : Addr) : Obj := { cls := .type "super", dict := none, data := .fields #[.ref D, .ref x, .ref C], slots := #[] }
noncomputable abbrev wrapObj (x : Addr) : Obj := { cls := .type "method-wrapper", data := .fields #[.builtin "Exception.__init__", .ref x] }

section
variable {prog : Program} {w : World} {M : Model} {A : Around} {E : Value → Shared → Prop} {h : Heap} {g : Array GenState} {d : Drawn} {t : Nat} {os : OsState}

theorem sup_wrap {so D x C : Addr} {l₀ l : List Value} {K : Frag} {tk : Tok} {Q : Fin → Shared → Prop}
    (hso : h.get? so = some (supObj D x C)) (hno : Looks (model prog w) h (opaqueClassAbove (.ref C)) none)
    (hC : Looks (model prog w) h (mroOf (.ref C)) l₀) (hl : (l₀.dropWhile (· != .ref D)).drop 1 = l) (X : K.In h)
    (hf : alongIn K "__init__" l = some (some (.builtin "Exception.__init__"))) {ox : Obj} (hx : h.get? x = some ox) (hxc : ox.cls = .ref C) (hsub : Looks (model prog w) h (isSubtype (.ref C) (.type "Exception")) true) (hxC : x ≠ C)
    (hq : Q (.done (.ret (.ref h.objs.size))) ⟨h.push (wrapObj x), g, d, t, os⟩) :
    wpAny (model prog w) A (Builtin.«super.__getattribute__» ⟨[.ref so, .str "__init__" tk], []⟩) Q E ⟨h, g, d, t, os⟩ := by
  have hlk := sw_get.lookup
  have hne : (Value.ref x == Value.ref C) = false := by simp [hxC]
  have hdt : (supObj D x C).data = .fields #[.ref D, .ref x, .ref C] := rfl
  have f0 : (#[.ref D, .ref x, .ref C] : Array Value)[0]? = some (.ref D) := rfl
  have f1 : (#[.ref D, .ref x, .ref C] : Array Value)[1]? = some (.ref x) := rfl
  have f2 : (#[.ref D, .ref x, .ref C] : Array Value)[2]? = some (.ref C) := rfl
  have hn : (("__init__" : Str) == ("__class__" : Str)) = false := by decide
  have hTf : (⟨h, g, d, t, os⟩ : Shared).TypeIs (.builtin "Exception.__init__") "wrapper_descriptor" := ty_init
  unfold Builtin.«super.__getattribute__»
  repeat (first
    | (with_reducible refine wpAny_field hso hdt f0 ?_) | (with_reducible refine wpAny_field hso hdt f1 ?_) | (with_reducible refine wpAny_field hso hdt f2 ?_)
    | (with_reducible refine ks_wpAny_notOpaque hno ?_)
    | (with_reducible refine Looks.at hC ?_; rw [hl])
    | (refine ks_forIn_along X (fun _ _ => rfl) rfl ?_ hf)
    | (with_reducible refine wpAny_typeOf hTf ?_)
    | (with_reducible refine wpAny_call_entry sw_get hTf en_get ?_ (ar_get _ _ _))
    | (simp only [hn, hne, Bool.or_false, Bool.false_eq_true, if_false])
    | wp_step
    | dsimp only)
  rw [hxc, show ".".intercalate ("Exception.__init__".cutAt '.').dropLast = "Exception" from by decide +kernel]
  refine Looks.at hsub ?_
  first | refine if_no rfl ?_ | rw [if_neg (by decide)]
  refine wpAny_pure ?_
  unfold newFields
  refine wpAny_bind (wpAny_newObj_type ?_ (by size_fits))
  exact wpAny_pure ⟨_, rfl, wpAny_bind (wpAny_pure (wpAny_pure (wpAny_pure hq)))⟩

theorem sup_meth {so D x C : Addr} {l₀ l : List Value} {K : Frag} {pl : Sem Bool} {Q : Value × List Value → Shared → Prop}
    (hso : h.get? so = some (supObj D x C)) (hno : Looks (model prog w) h (opaqueClassAbove (.ref C)) none)
    (hC : Looks (model prog w) h (mroOf (.ref C)) l₀) (hl : (l₀.dropWhile (· != .ref D)).drop 1 = l) (X : K.In h)
    (hf : alongIn K "__init__" l = some (some (.builtin "Exception.__init__"))) {ox : Obj} (hx : h.get? x = some ox) (hxc : ox.cls = .ref C) (hsub : Looks (model prog w) h (isSubtype (.ref C) (.type "Exception")) true) (hxC : x ≠ C)
    (hq : Q (.ref h.objs.size, []) ⟨h.push (wrapObj x), g, d, t + 1, os⟩) :
    wpAny (model prog w) A (getMethod (.ref so) "__init__" pl) Q E ⟨h, g, d, t, os⟩ := by
  have hlk := F.ks_slot_super_ga.lookup
  have hcan := F.ks_canon_super_ga
  have hT : ∀ t', (⟨h, g, d, t', os⟩ : Shared).TypeIs (.ref so) "super" := fun _ => ⟨_, hso, rfl⟩
  unfold getMethod
  refine wpAny_bind (wpAny_specialOf (hT _) hlk ?_)
  show wpAny _ _ (if (Manifest.canonical "super.__getattribute__" != "object.__getattribute__") = true then _ else _) _ _ _
  rw [if_pos hcan]
  unfold getAttr getAttrBy
  refine wpAny_bind (wpAny_bind (wpAny_mkText (wpAny_holding (wpAny_bind (wpAny_typeOf (hT _) (wpAny_bind (wpAny_of_eq hlk ?_)))))))
  show wpAny _ _ (getAttrByItsOwn (.ref so) (.str "__init__" t) (.type "super") (.builtin "super.__getattribute__") true false) _ _ _
  unfold getAttrByItsOwn hookBefore callGetattribute boundAndCalled
  refine wpAny_bind (wpAny_of_eq (show (if onTheHeap (.type "super") then typeLookup (.type "super") "__getattr__" else pure none) = pure none from rfl) ?_)
  refine wpAny_bind (wpAny_attempt (wpAny_holding ?_))
  show wpAny _ _ (bindSpecial (.builtin "super.__getattribute__") (.ref so) >>= _) _ _ _
  refine wpAny_bind (wpAny_of_eq (F.ks_slot_super_ga.bind _) ?_)
  refine wpAny_mono (Q := fun v s' => v = .ref h.objs.size ∧ s' = ⟨h.push (wrapObj x), g, d, t + 1, os⟩) (E := fun _ _ => False)
    (wpAny_call_entry F.ks_slot_super_ga (hT _) F.ks_entry_super_ga (sup_wrap hso hno hC hl X hf hx hxc hsub hxC ⟨_, rfl, rfl, rfl⟩) (F.ks_gaArgs_super _ _)) (fun v s' hv => ?_) fun _ _ z => z.elim
  obtain ⟨rfl, rfl⟩ := hv
  exact wpAny_pure (wpAny_pure hq)

variable {nm q : Str} {C N : Addr} {bs bm : List Value} {hdct : Bool} {sn : List Str} {sub : List Value} {ab : Bool} {col : Option Bool} {dd : Option Addr} {k0 k1 k2 k3 k5 : Option Value} {newId : String}
theorem ck_init {e : Addr} {oe : Obj} {what : Value} {Q : Unit → Shared → Prop} (hC : h.get? C = some (excClassObj nm q C N bs bm hdct sn sub ab col dd k0 k1 k2 k3 k5 newId)) (he : h.get? e = some oe) (hcls : oe.cls = .ref C) (hq : Q () ⟨h, g, d, t, os⟩) :
    wpAny M A (checkBoundCall "Exception.__init__" ⟨[.ref e, what], []⟩) Q E ⟨h, g, d, t, os⟩ := by
  unfold checkBoundCall
  rw [PySem.F.excBase_Exception.initRow, PySem.F.excBase_Exception.initKind]
  dsimp only
  first | refine if_yes rfl ?_ | rw [if_pos (by decide)]
  unfold Bind.checkArgs
  have hshort := PySem.F.excBase_Exception.noStar
  repeat (first | (with_reducible refine wpAny_loadPart_at he ?_; rw [hcls]) | with_reducible refine wpAny_loadPart_at hC ?_ | wp_step)
  exact hq
theorem qu_init (a : Args) : (Code.builtin "Exception.__init__" a).quiet = true := Code.quiet_builtin _ (by decide +kernel)

noncomputable abbrev excRec (C a0 : Addr) (tb : Value) (dd : Option Addr) : Obj := { cls := .ref C, dict := dd, data := .fields #[.ref a0, tb, .none, .none, .bool false, .none] }
/-- the wrapper's call -/
theorem call_wrap {u e a0 : Addr} {what : Value} {ed : Option Addr} {Q : Value → Shared → Prop} (hu : h.get? u = some (wrapObj e)) (he : h.get? e = some (excRec C a0 .none ed)) (hC : h.get? C = some (excClassObj nm q C N bs bm hdct sn sub ab col dd k0 k1 k2 k3 k5 newId))
    (hq : ∀ h' a1, (∀ b o, b ≠ e → h.get? b = some o → h'.get? b = some o) → h'.get? e = some (excRec C a1 .none ed) → Q .none ⟨h', g, d, t, os⟩) :
    wpAny (model prog w) A (call (.ref u) [what]) Q E ⟨h, g, d, t, os⟩ := by
  refine wpAny_call (codeAny_of_tree ?_)
  show wpAny _ A.in1 (callAny (.ref u) ⟨[what], []⟩) _ _ _
  simp only [callAny]
  refine wpAny_bind (wpAny_load hu ?_)
  simp only [show (Value.type "method-wrapper" == Value.type "method" || Value.type "method-wrapper" == Value.type "builtin_function_or_method" || Value.type "method-wrapper" == Value.type "method-wrapper") = true by decide, if_true]
  show wpAny _ _ (if (Value.type "method-wrapper" != Value.type "method") = true then _ else _) _ _ _
  first | refine if_yes rfl ?_ | rw [if_pos (by decide)]
  refine wpAny_bind (ck_init hC he rfl ?_)
  refine wpAny_bind (wpAny_pure (wpAny_pure ?_))
  refine ⟨qu_init _, codeAny_builtin PySem.F.excBase_Exception.initEntry ?_⟩
  have he₁ := Heap.get?_push_of_some { cls := .type "tuple", data := .seq #[what] } he
  show wpAny _ _ (Builtin.«BaseException.__init__» ⟨[.ref e, what], []⟩) _ _ _
  unfold Builtin.«BaseException.__init__»
  repeat (any_goals (first | with_reducible refine wpAny_loadPart_at he₁ ?_ | wp_step))
  exact hq _ _ (fun b o n k => (Heap.get?_update_other _ _ (Ne.symm n)).trans (Heap.get?_push_of_some _ k)) (Heap.get?_update_self _ he₁ rfl)
end
end Mine
end

section
open PySem PySem.W PyProof.Rows PySem.Calls PySem.Spec
set_option autoImplicit false
namespace Mine
section
variable {W : Wd} {s : Shared} {A : Around} {E : Value → Shared → Prop} {C x dx : Addr} {name : Str} {v : Value} {K : Frag} {es : List DictEntry} {n : Nat}
noncomputable def passes (K : Frag) (C : Addr) : Prop := ∃ cd, clsIn K C = some cd ∧ cd.mro.contains (.type "object") = true ∧ ∀ self, refuseLoop self "__setattr__" cd.mro = pure ()
theorem osa_openE {R : Result → Shared → Prop} {ox : Obj} {od : Option Obj} {tk : Tok} {r : Option Value} (X : K.In s.heap) (I : PySem.W.InstAt s.heap x ox C od) (hp : passes K C) (ht : takerIn K C name = some r)
    (h : ∀ b, wpAny (model pw W.w) A.in1 (match r with | some a => Builtin.ObjectAttr.setByDescriptor a (.ref x) v | none => Builtin.ObjectAttr.storeInOwnDict (.ref x) (.ref C) (.str name tk) name v b)
      (fun fin s' => match fin with | .done f => R (.ok f) s' | .again c' => c'.quiet = true ∧ codeAny (model pw W.w) A c' R s') (fun e s' => R (.error e) s') s) :
    codeAny (model pw W.w) A (.call (.builtin "object.__setattr__") ⟨[.ref x, .str name tk, v], []⟩) R s := by
  have SF := PySem.F.store_object
  obtain ⟨cd, hc, hob, ho⟩ := hp
  have ne : cd.mro.isEmpty = false := by cases q : cd.mro with | nil => rw [q] at hob; cases hob | cons _ _ => rfl
  have sub : Looks (model pw W.w) s.heap (isInstance (.ref x) (.type "object")) true := I.type.andThen (looks_mroIn X (by unfold mroIn; rw [hc, Option.bind_some, if_neg (by rw [ne]; decide), hob]))
  refine codeAny_call_builtin SF.slot.plain SF.entry (@check_slot (model pw W.w) _ _ s "object.__setattr__" "object" "__setattr__" (.ref x) [.str name tk, v] [] _ SF.kind SF.split sub (SF.args (.ref x) (.str name tk) v) ?_)
  obtain ⟨attr, ha, hr⟩ := Option.bind_eq_some_iff.mp ht
  have hm : Looks (model pw W.w) s.heap (mroOf (.ref C)) cd.mro := (looks_clsIn X hc).andThen .now
  have L3 : Looks (model pw W.w) s.heap (Builtin.ObjectAttr.storeTaker? attr) r := by
    cases attr with
    | none => cases hr; exact .now
    | some a =>
      obtain ⟨b, hb, rfl⟩ := Option.map_eq_some_iff.mp hr
      refine (looks_takesIn X hb).andThen ?_
      cases b <;> exact .now
  rw [osa_eq, refuse_eq]
  refine wpAny_bind (wpAny_bind (I.type.here (wpAny_bind (hm.here ?_))))
  rw [ho]
  refine wpAny_pure (wpAny_bind (I.type.here (wpAny_bind ((looks_findIn X ha).here (wpAny_bind (L3.here ?_))))))
  exact h _
theorem st_dict {Q : PySem.Fin → Shared → Prop} {tk : Tok} (hdx : s.heap.get? dx = some (dictOf es n)) (hl : (getL name es).isSome = true)
    (hz : (putL name (PyData.keyHash W.w.params name) (.str name s.toks) v es).length ≤ 1000)
    (h : ∀ h', (∀ b o, s.heap.get? b = some o → b ≠ dx → h'.get? b = some o) →
      h'.get? dx = some (dictOf (putL name (PyData.keyHash W.w.params name) (.str name s.toks) v es) (putN name es n)) → Q (.done (.ret .none)) { s with heap := h', toks := s.toks + 1 }) :
    wpAny (model pw W.w) A (Builtin.ObjectAttr.storeInDict dx (.str name tk) name v) Q E s := by
  have e := putName_dict name (PyData.keyHash W.w.params name) (.str name s.toks) v es n
  have D' := Heap.get?_update_self (Obj.putName name (PyData.keyHash W.w.params name) (.str name s.toks) v) hdx (by rw [e]; rfl)
  unfold Builtin.ObjectAttr.storeInDict Builtin.ObjectAttr.newKeyGuard
  refine wpAny_bind (wpAny_pure (wpAny_bind ?_))
  unfold nsSet
  refine wpAny_bind (wpAny_bind (wpAny_askSetting (wpAny_pure (wpAny_bind (wpAny_mkText (wpAny_bind (wpAny_loadPart hdx ?_)))))))
  have c : (!es.any (·.key.isStr name) && es.any (·.refKey)) = false := by
    unfold getL at hl
    split at hl
    · rename_i en he
      rw [List.any_eq_true.mpr ⟨en, List.mem_of_find?_eq_some he, List.find?_some he⟩]; rfl
    · split at hl
      · cases hl
      · rename_i z; rw [Bool.not_eq_true] at z; rw [z, Bool.and_false]
  dsimp only
  rw [aRefKeyMayBeTheName_at, ← Array.any_toList, ← Array.any_toList]
  rw [show (!(es.toArray.toList.any fun x => x.key.isStr name) && es.toArray.toList.any fun x => x.refKey) = false from c]
  refine wpAny_updatePart hdx ?_
  refine wpAny_bind (wpAny_lookBehind D' (by rw [e]; exact pastItsLine_dict (by rw [List.size_toArray, sizeLine_eq]; lia)) ?_)
  refine wpAny_pure (h _ (fun b o q n => (Heap.get?_update_other _ _ (Ne.symm n)).trans q) ?_)
  rw [← e]; exact D'

theorem i_osa0 {R : Result → Shared → Prop} {tk : Tok} {a0 : Addr} {tb : Value} (X : K.In s.heap) (hx : s.heap.get? x = some (excRec C a0 tb none))
    (hp : passes K C) (ht : takerIn K C name = some none) (hh : hasDictIn K C = true)
    (h : ∀ h' xd, (∀ b o, s.heap.get? b = some o → b ≠ x → h'.get? b = some o) → s.heap.get? xd = none → xd ≠ x →
      h'.get? x = some (excRec C a0 tb (some xd)) → h'.get? xd = some (dictOf [⟨PyData.keyHash W.w.params name, .str name s.toks, v⟩] 1) → R (.ok (.ret .none)) { s with heap := h', toks := s.toks + 1 }) :
    codeAny (model pw W.w) A (.call (.builtin "object.__setattr__") ⟨[.ref x, .str name tk, v], []⟩) R s := by
  have I : PySem.W.InstAt s.heap x (excRec C a0 tb none) C none := ⟨hx, rfl, rfl, trivial⟩
  refine osa_openE X I hp ht fun b => ?_
  obtain ⟨cd, hc, hd'⟩ := any_some hh
  show wpAny _ _ (Builtin.ObjectAttr.storeInOwnDict (Value.ref x) (Value.ref C) (Value.str name tk) name v b) _ _ _
  unfold Builtin.ObjectAttr.storeInOwnDict Builtin.ObjectAttr.ownDictForStores
  refine wpAny_bind (wpAny_pure (wpAny_bind (wpAny_bind (wpAny_loadPart hx ?_))))
  refine wpAny_bind ((looks_clsIn X hc).here ?_)
  rw [hd']
  have hxs : x ≠ s.heap.objs.size := Nat.ne_of_lt (Heap.lt_size hx)
  have hx₁ : (s.heap.push { cls := .type "dict", data := .dict #[] }).get? x = some (excRec C a0 tb none) := Heap.get?_push_of_some _ hx
  show wpAny _ _ (alloc { cls := .type "dict", data := .dict #[] } >>= _) _ _ _
  refine wpAny_bind (wpAny_alloc' ?_)
  refine wpAny_bind (wpAny_update' hx₁ ?_)
  refine wpAny_pure ?_
  have hgd : ((s.heap.push { cls := .type "dict", data := .dict #[] }).update x fun o => { cls := o.cls, dict := some s.heap.objs.size, data := o.data, slots := o.slots }).get? s.heap.objs.size
      = some (dictOf [] 0) := (Heap.get?_update_ne _ _ _ _ hxs.symm).trans (Heap.get?_push_at rfl rfl)
  refine st_dict (s := { s with heap := (s.heap.push { cls := .type "dict", data := .dict #[] }).update x fun o => { cls := o.cls, dict := some s.heap.objs.size, data := o.data, slots := o.slots } }) hgd rfl (by show 1 ≤ 1000; lia) fun h' k e => ?_
  refine h h' _ (fun b o q n => k b o ((Heap.get?_update_ne _ _ _ _ n).trans (Heap.get?_push_of_some _ q)) (Nat.ne_of_lt (Heap.lt_size q))) ?_ (Ne.symm hxs) (k x _ (Heap.get?_update_self _ hx₁ rfl) hxs) e
  cases q : s.heap.get? s.heap.objs.size with
  | none => rfl
  | some o => exact absurd (Heap.lt_size q) (Nat.lt_irrefl _)
theorem i_set0 {Q : Unit → Shared → Prop} {a0 : Addr} {tb : Value} (X : K.In s.heap) (hx : s.heap.get? x = some (excRec C a0 tb none))
    (hs : findIn K (.ref C) "__setattr__" = some (some (.builtin "object.__setattr__"))) (hp : passes K C) (ht : takerIn K C name = some none) (hh : hasDictIn K C = true)
    (h : ∀ h' xd, (∀ b o, s.heap.get? b = some o → b ≠ x → h'.get? b = some o) → s.heap.get? xd = none → xd ≠ x →
      h'.get? x = some (excRec C a0 tb (some xd)) → h'.get? xd = some (dictOf [⟨PyData.keyHash W.w.params name, .str name (s.toks + 1), v⟩] 1) → Q () { s with heap := h', toks := s.toks + 2 }) :
    wpAny (model pw W.w) A (setAttr (.ref x) name v) Q E s :=
  set_plain (ox := excRec C a0 tb none) (od := none) X ⟨hx, rfl, rfl, trivial⟩ hs (i_osa0 (s := { s with toks := s.toks + 1 }) X hx hp ht hh fun h' xd a b c d e => h h' xd a b c d e)

/-- attribute store on any object with a dict -/
theorem o_osa {R : Result → Shared → Prop} {tk : Tok} {ox : Obj} (X : K.In s.heap) (hx : s.heap.get? x = some ox) (hc₀ : ox.cls = .ref C) (hnc : notCls ox = true) (hox : ox.dict = some dx) (hdx : s.heap.get? dx = some (dictOf es n))
    (hp : passes K C) (ht : takerIn K C name = some none) (hh : hasDictIn K C = true) (hl : (getL name es).isSome = true)
    (hz : (putL name (PyData.keyHash W.w.params name) (.str name s.toks) v es).length ≤ 1000)
    (h : ∀ h', (∀ b o, s.heap.get? b = some o → b ≠ dx → h'.get? b = some o) →
      h'.get? dx = some (dictOf (putL name (PyData.keyHash W.w.params name) (.str name s.toks) v es) (putN name es n)) → R (.ok (.ret .none)) { s with heap := h', toks := s.toks + 1 }) :
    codeAny (model pw W.w) A (.call (.builtin "object.__setattr__") ⟨[.ref x, .str name tk, v], []⟩) R s := by
  have I : PySem.W.InstAt s.heap x ox C (some (dictOf es n)) := ⟨hx, hc₀, hnc, by rw [hox]; exact hdx⟩
  refine osa_openE X I hp ht fun b => ?_
  obtain ⟨cd, hc, hd'⟩ := any_some hh
  show wpAny _ _ (Builtin.ObjectAttr.storeInOwnDict (Value.ref x) (Value.ref C) (Value.str name tk) name v b) _ _ _
  unfold Builtin.ObjectAttr.storeInOwnDict Builtin.ObjectAttr.ownDictForStores
  refine wpAny_bind (wpAny_pure (wpAny_bind (wpAny_bind (wpAny_loadPart hx ?_))))
  obtain ⟨oc, od, odt, osl⟩ := ox
  obtain rfl : oc = .ref C := hc₀
  obtain rfl : od = some dx := hox
  cases odt <;> first
    | exact Bool.noConfusion hnc
    | (refine wpAny_bind ((looks_clsIn X hc).here ?_)
       rw [hd']
       exact wpAny_pure (st_dict hdx hl hz h))
theorem o_set {Q : Unit → Shared → Prop} {ox : Obj} (X : K.In s.heap) (hx : s.heap.get? x = some ox) (hc₀ : ox.cls = .ref C) (hnc : notCls ox = true) (hox : ox.dict = some dx) (hdx : s.heap.get? dx = some (dictOf es n))
    (hs : findIn K (.ref C) "__setattr__" = some (some (.builtin "object.__setattr__"))) (hp : passes K C) (ht : takerIn K C name = some none) (hh : hasDictIn K C = true) (hl : (getL name es).isSome = true)
    (hz : (putL name (PyData.keyHash W.w.params name) (.str name (s.toks + 1)) v es).length ≤ 1000)
    (h : ∀ h', (∀ b o, s.heap.get? b = some o → b ≠ dx → h'.get? b = some o) →
      h'.get? dx = some (dictOf (putL name (PyData.keyHash W.w.params name) (.str name (s.toks + 1)) v es) (putN name es n)) → Q () { s with heap := h', toks := s.toks + 2 }) :
    wpAny (model pw W.w) A (setAttr (.ref x) name v) Q E s :=
  set_plain (od := some (dictOf es n)) X ⟨hx, hc₀, hnc, by rw [hox]; exact hdx⟩ hs (o_osa (s := { s with toks := s.toks + 1 }) X hx hc₀ hnc hox hdx hp ht hh hl hz fun h' a b => h h' a b)
end
end Mine
end

section
open PySem PySem.W PyProof.Rows PySem.Calls PySem.Spec
set_option autoImplicit false
namespace Mine
theorem warmed (w : World) (h : Heap) : (hd.heap_39 w.params).In h → PySem.Challenge.rw_rh0003_01.prog = PySem.Challenge.rw_rh0003_01.prog := by
  k_fill
  intro _
  rfl
section
variable {W : Wd} {G : Heap} {L : Addr} {m : List (Str × Value)} {news : List (Addr × (Obj → Prop))} {s : Shared} {A : Around} {E : Value → Shared → Prop} {env : Env}
  {x : Str} {pos : Pos} {v : Value}
theorem n_locE {Q : Value → Shared → Prop} (D : Led W G L m news s) (hv : lk m x = some v) (h : Q v s) (hL : env.locals = L := by rfl)
    (hk : env.scope.kind = .function := by rfl) (hl : env.kindOf x = some .local := by rfl) : wpAny (model pw W.w) A (loadName env x) Q E s := by
  obtain ⟨m₀, hn, hm⟩ := D.ns
  subst hL
  exact wpAny_loadName_local hk hl hn (hm x v hv) h

theorem at_execs {α : Type} {c : Code} {t : Sem α} {Q : α → Shared → Prop} (h : wpAny (model pw W.w) A t Q E s) : _root_.PySem.wpAt (model pw W.w) A c t Q E s := PySem.wpAt_of_wpAny h

/-- a def is entered, its body with the stack in sight -/
theorem enterAt {name qual : Str} {params : Arguments} {body : List Stmt} {scope : Scope} {dV kV doc pm cdv ct oc : Value} {an od : Option Addr} {osl : Array (Option Value)} {f cc : Addr} {args : List Value} {R : Result → Shared → Prop} (m : List (Str × Value)) (hs : Hs W G s) (hn : ∀ p ∈ news, (∃ o, s.heap.get? p.1 = some o ∧ p.2 o) ∧ G.get? p.1 = none) (nd : (news.map (·.1)).Nodup)
    (ho : (hd.heap_39 W.w.params).lookup f = some ⟨oc, od, .func (ksFn name qual params body scope dV kV doc pm an cdv ct cc), osl⟩) (hcd : codeIn (hd.heap_39 W.w.params) cdv qual = true) (hroom : A.depth < recursionLimit)
    (hbind : bindArgs (ksFn name qual params body scope dV kV doc pm an cdv ct cc) ⟨args, []⟩ = pure m.reverse) (hloc : (m.reverse.all fun x => decide (scope.names.lookup x.1 = some .local)) = true)
    (hco : scope.isCoroutine = false) (hgen : scope.isGenerator = false) (hk : scope.kind = .function)
    (hcell : ∀ x ∈ scope.names, x.2 ≠ .cell)
    (h : ∀ L s₁, Led W G L m news s₁ → s.heap.StaysIn s₁.heap → s.heap.get? L = none →
      _root_.PySem.wpAt (model pw W.w) (A.deeper (ksEnv qual scope L f cdv cc)) (.func body (ksEnv qual scope L f cdv cc)) (execs body (ksEnv qual scope L f cdv cc)) (RetQ fun v s' => R (.ok (.ret v)) s') (LeaveE W (A.deeper (ksEnv qual scope L f cdv cc)) (ksEnv qual scope L f cdv cc) fun e s' => R (.error e) s') s₁) :
    codeAny (model pw W.w) A (.call (.ref f) ⟨args, []⟩) R s := by
  refine (ks_codeAny_call_defAt (fd := ksFn name qual params body scope dV kV doc pm an cdv ct cc) (body := body) (binds := m.reverse) hroom (hs.X _ _ ho) rfl hs.lim (codeRec_of hs.X hcd) rfl (BindsTo.of_eq hbind) hcell (locs hloc) (fun h₁ hns hk₁ => ?_) hco hgen hk)
  have lkr : ∀ (l : List (Str × Value)) y, lk l y = l.lookup y := by
    intro l
    induction l with
    | nil => intro y; rfl
    | cons p r ih =>
      obtain ⟨x, v⟩ := p
      intro y
      show (if y = x then some v else lk r y) = _
      rw [List.lookup_cons]
      by_cases q : y = x
      · subst q; simp
      · rw [if_neg q, ih y, show (y == x) = false from by simp [q]]
  have none : s.heap.get? s.heap.objs.size = none := by
    cases q : s.heap.get? s.heap.objs.size with
    | none => rfl
    | some o => exact absurd (Heap.lt_size q) (Nat.lt_irrefl _)
  have hG : G.get? s.heap.objs.size = .none := by
    cases q : G.get? s.heap.objs.size with
    | none => rfl
    | some o => have := hs.keep _ _ q; rw [none] at this; cases this
  rw [List.reverse_reverse] at hns
  have D : Led W G s.heap.objs.size m news { s with heap := h₁, toks := s.toks + m.reverse.length } := ⟨hs.to (fun b o e => hk₁ b o (hs.keep b o e)), ⟨_, hns, fun y v e => by rw [← lkr]; exact e⟩, hG,
    fun p hp => let ⟨⟨o, e, q⟩, r⟩ := hn p hp; ⟨⟨o, hk₁ _ _ e, q⟩, Nat.ne_of_lt (Heap.lt_size e), r⟩, nd⟩
  exact h _ _ D hk₁ none
end

theorem obj_of {K : Frag} {a : Addr} {o : Obj} {Q : Prop} (e : K.lookup a = some o) (h : K.lookup a = some o → Q) : Q := h e
theorem fsa76 {W : Wd} : findIn (hd.heap_39 W.w.params) (.ref 76) "__setattr__" = some (some (.builtin "object.__setattr__")) := by k_is
theorem fhas76 {W : Wd} : hasDictIn (hd.heap_39 W.w.params) 76 = true := by k_is
theorem ft_what {W : Wd} : takerIn (hd.heap_39 W.w.params) 76 "what" = some none := by k_is
theorem ft_spot {W : Wd} : takerIn (hd.heap_39 W.w.params) 76 "spot" = some none := by k_is
theorem fopq {W : Wd} : nsIn (hd.heap_39 W.w.params) cStatics "thirdparty.any" = some none := by k_is
theorem fsup {W : Wd} : nsIn (hd.heap_39 W.w.params) mainGlobals "super" = some none := by k_is
theorem fsub1 {W : Wd} : mroIn (hd.heap_39 W.w.params) 76 (.ref 47) = some true := by k_is
theorem fsub2 {W : Wd} : mroIn (hd.heap_39 W.w.params) 76 (.ref 76) = some true := by k_is
theorem fsub3 {W : Wd} : mroIn (hd.heap_39 W.w.params) 76 (.type "Exception") = some true := by k_is
theorem fcls76 {W : Wd} : ∃ (nm q : Str) (bs : List Value) (hdct : Bool) (sn : List Str) (sub : List Value) (ab : Bool) (col : Option Bool) (dd : Option Addr) (k0 k1 k2 k3 k5 : Option Value),
    (hd.heap_39 W.w.params).lookup 76 = some (excClassObj nm q 76 75 bs [.ref 47, .type "Exception", .type "BaseException", .type "object"] hdct sn sub ab col dd k0 k1 k2 k3 k5 "Exception.__new__") := by
  refine obj_of (a := 76) (K := hd.heap_39 W.w.params) (o := ⟨_, _, .cls _, _⟩) (by k_is) fun e => ?_
  exact ⟨_, _, _, _, _, _, _, _, _, _, _, _, _, _, e⟩
theorem fcls47 {W : Wd} : ∃ (nm q : Str) (bs : List Value) (hdct : Bool) (sn : List Str) (sub : List Value) (ab : Bool) (col : Option Bool) (dd : Option Addr) (k0 k1 k2 k3 k5 : Option Value),
    (hd.heap_39 W.w.params).lookup 47 = some (excClassObj nm q 47 46 bs [.type "Exception", .type "BaseException", .type "object"] hdct sn sub ab col dd k0 k1 k2 k3 k5 "Exception.__new__") := by
  refine obj_of (a := 47) (K := hd.heap_39 W.w.params) (o := ⟨_, _, .cls _, _⟩) (by k_is) fun e => ?_
  exact ⟨_, _, _, _, _, _, _, _, _, _, _, _, _, _, e⟩
theorem pass76 {W : Wd} : passes (hd.heap_39 W.w.params) 76 := by
  refine hideP fun PH1 hPH1 => ?_
  obtain ⟨nm, q, bs, hdct, sn, sub, ab, col, dd, k0, k1, k2, k3, k5, e⟩ := fcls76 (W := W)
  subst hPH1
  refine ⟨_, by unfold clsIn; rw [e], rfl, fun self => ?_⟩
  rw [refuseLoop_ref, refuseLoop_ref]
  exact PySem.F.store_Exception.passes self
theorem fal47 {W : Wd} : alongIn (hd.heap_39 W.w.params) "__init__" [.type "Exception", .type "BaseException", .type "object"] = some (some (.builtin "Exception.__init__")) := by kernel_rfl
theorem fin1 {W : Wd} : nsIn (hd.heap_39 W.w.params) 46 "__init__" = some (some (.ref 37)) := by k_is
theorem fin2 {W : Wd} : nsIn (hd.heap_39 W.w.params) 75 "__init__" = some (some (.ref 66)) := by k_is
theorem fal76 {W : Wd} : alongIn (hd.heap_39 W.w.params) "__init__" [.ref 47, .type "Exception", .type "BaseException", .type "object"] = some (some (.ref 37)) := by kernel_rfl

section
variable {W : Wd} {G : Heap} {L : Addr} {m : List (Str × Value)} {news : List (Addr × (Obj → Prop))} {s : Shared} {A : Around} {E : Value → Shared → Prop} {env : Env}
  {x : Str} {pos : Pos} {v : Value}
theorem g_blt {Q : Value → Shared → Prop} (D : Led W G L m news s) (hn : W.mg x = none) (hv : bootBuiltins x = some v) (h : Q v s) (hg : env.globals = mainGlobals := by rfl) (hb : env.builtins = builtinsNs := by rfl)
    (hx : x ≠ "__name__" := by decide) : wpAny (model pw W.w) A (loadGlobal env x) Q E s :=
  loadGlobal_builtin (env := env) (by rw [hg]; exact D.hs.g) hn (by rw [hb]; exact D.hs.b) ((D.hs.st.bi x hx).trans hv) h
theorem cw_wrap {M : Model} {pos : Pos} {u x : Addr} {first : List Value} {env : Env} {e : Expr} {rest : List Expr} {Q : Value → Shared → Prop}
    (h : wpAny M A (spliced (backTo pos (starEach (e :: rest) env))) (fun vs s₁ => s₁.heap.get? u = some (wrapObj x) ∧ wpAny M A (call (.ref u) (first ++ vs)) Q E s₁) E s)
    (he : starEach (e :: rest) env = (false, eval e env) :: starEach rest env := by rfl) (hplain : (backTo pos (starEach rest env)).any (·.1) = false := by rfl) :
    wpAny M A (callWith pos (.ref u) first (backTo pos (starEach (e :: rest) env)) []) Q E s := by
  rw [he] at h ⊢
  have h2 : wpAny M A (evalArgs (.ref u) true (backTo pos ((false, eval e env) :: starEach rest env)) []) (fun x' s₁ => s₁.heap.get? u = some (wrapObj x) ∧ wpAny M A (call (.ref u) (first ++ x'.pos) x'.kw) Q E s₁) E s := evalArgs_plain h
  have hp : (backTo pos ((false, eval e env) :: starEach rest env)).any (·.1) = false := by show (false || (backTo pos (starEach rest env)).any (·.1)) = false; rw [hplain]; rfl
  generalize backTo pos ((false, eval e env) :: starEach rest env) = args at h2 hp ⊢
  unfold callWith
  refine wpAny_bind (wpAny_holding (wpAny_mono h2 (fun x s₁ h₁ => wpAny_bind (wpAny_standAt ?_)) fun _ _ x => x))
  obtain ⟨ho, hcall⟩ := h₁
  simp only [hp, List.any_nil, Bool.or_false]
  refine wpAny_bind (m := keeperOf (.ref u)) ?_
  unfold keeperOf
  refine wpAny_bind (wpAny_load ho ?_)
  simp only [show (Value.type "method-wrapper" != Value.type "method") = true by decide, show (Value.type "method-wrapper" == Value.type "builtin_function_or_method" || Value.type "method-wrapper" == Value.type "method-wrapper") = true by decide, if_true]
  refine wpAny_pure ?_
  exact wpAny_bind (wpAny_mono hcall (fun r s₂ hr => wpAny_bind (wpAny_holding (wpAny_point (wpAny_pure hr)))) fun _ _ x => x)
theorem mro76 (hs : Hs W G s) : Looks (model pw W.w) s.heap (mroOf (.ref 76)) [.ref 76, .ref 47, .type "Exception", .type "BaseException", .type "object"] := by
  refine hideP fun PH2 hPH2 => ?_
  obtain ⟨nm, q, bs, hdct, sn, sub, ab, col, dd, k0, k1, k2, k3, k5, e⟩ := fcls76 (W := W)
  subst hPH2
  intro A Q E s' k q
  refine hideP fun PH3 hPH3 => ?_
  obtain ⟨h, g, d, t, os⟩ := s'
  subst hPH3
  exact wpAny_mroOf_exc (k _ _ (hs.X _ _ e)) q
theorem c_hinit {e a0 : Addr} {msg : Str} {tm : Tok} {R : Result → Shared → Prop} (hs : Hs W G s) (he : s.heap.get? e = some (excRec 76 a0 .none none)) (hG : G.get? e = none) (hdp : A.depth < recursionLimit)
    (k : ∀ s' a1 xd, Hs W (hid s.heap [e]) s' → s'.heap.get? e = some (excRec 76 a1 .none (some xd)) → s.heap.get? xd = none → xd ≠ e → (∃ h t, s'.heap.get? xd = some (dictOf [⟨h, .str "what" t, .str msg tm⟩] 1)) → R (.ok (.ret .none)) s') :
    codeAny (model pw W.w) A (.call (.ref 37) ⟨[.ref e, .str msg tm], []⟩) R s := by
  have hs' : Hs W (hid s.heap [e]) s := hs.up (fun b o q => hid_get (hs.keep b o q) fun z => by rw [List.mem_singleton.mp z, hG] at q; cases q) hid_in
  refine enterAt [("what", .str msg tm), ("self", .ref e)] (news := [(e, (· = excRec 76 a0 .none none))]) hs' (fun p hp => by rw [List.mem_singleton.mp hp]; exact ⟨⟨_, he, rfl⟩, hid_none (.head _)⟩) (by simp) (by k_is) (by k_is) hdp rfl rfl rfl rfl rfl (by decide) fun L s₁ D st hL => ?_
  refine ks_wpAt_execs_cons (ks_wpAt_Expr_any (ks_wpAt_MethodCall ?_))
  refine ks_wpAt_super_base (ar := _) rfl rfl (by decide) rfl (D.hs.X _ _ (by k_is)) rfl rfl rfl (D.hs.X _ _ (by k_is)) rfl rfl (by decide) (by decide +kernel) ?_
  refine ks_loadName_global rfl rfl (g_blt D (mg_none hs.st fsup) rfl ⟨rfl, ?_⟩)
  refine wpAny_loadName_free rfl rfl rfl ⟨_, D.hs.X _ _ (by k_is), rfl⟩ ?_
  refine n_locE D (lk_tl lk_hd) ?_
  refine ks_wpAny_isType_cls (D.hs.X _ _ (by k_is)) rfl ⟨rfl, ?_⟩
  obtain ⟨_, he₁, rfl⟩ := D.get (.head _)
  refine ks_wpAny_call_super (D.hs.X _ _ (by k_is)) rfl he₁ rfl (fun c z => by cases z) (looks_mroIn D.hs.X fsub1) (fun h' e' k' => ?_)
  have hsz := Heap.lt_size he₁
  have D₂ : Led W (hid s.heap [e]) L [("what", .str msg tm), ("self", .ref e)] [(e, (· = excRec 76 a0 .none none))] { s₁ with heap := h' } := D.kept k'
  refine sup_meth (so := s₁.heap.objs.size) (x := e) (D := 47) (C := 76) e' (looks_opaque D₂.hs.X fopq) (mro76 D₂.hs) rfl D₂.hs.X fal47 (k' _ _ he₁) rfl (looks_mroIn D₂.hs.X fsub3) (fun z => ?_) ?_
  · refine hideP fun PH4 hPH4 => ?_
    obtain ⟨nm, q, bs, hdct, sn, sub, ab, col, dd, k0, k1, k2, k3, k5, ec⟩ := fcls76 (W := W)
    subst hPH4
    have := D₂.hs.X _ _ ec
    have h2 := k' _ _ he₁
    have z : e = 76 := z
    rw [z] at h2
    rw [h2] at this
    cases this
  have k₃ : ∀ (y : Addr) (o : Obj), h'.get? y = some o → (h'.push (wrapObj e)).get? y = some o := fun y o q => Heap.get?_push_of_some _ q
  have D₃ : Led W (hid s.heap [e]) L [("what", .str msg tm), ("self", .ref e)] [(e, (· = excRec 76 a0 .none none))] { s₁ with heap := h'.push (wrapObj e), toks := s₁.toks + 1 } := (D₂.kept (s' := { s₁ with heap := h'.push (wrapObj e) }) k₃).tok _
  refine cw_wrap (x := e) (spliced_more (wpAny_Name (n_locE D₃ lk_hd (spliced_none ⟨Heap.get?_push_size _ rfl, ?_⟩)))) 
  refine hideP fun PH5 hPH5 => ?_
  obtain ⟨nm, q, bs, hdct, sn, sub, ab, col, dd, k0, k1, k2, k3, k5, ec⟩ := fcls76 (W := W)
  subst hPH5
  obtain ⟨_, he₃, rfl⟩ := D₃.get (.head _)
  refine call_wrap (Heap.get?_push_size _ rfl) he₃ (D₃.hs.X _ _ ec) fun h₄ a1 k₄ e₄ => ?_
  have D₄ : Led W (hid s.heap [e]) L [("what", .str msg tm), ("self", .ref e)] [(e, (· = excRec 76 a1 .none none))] { s₁ with heap := h₄, toks := s₁.toks + 1 } :=
    D₃.chg (pre := []) (post := []) (fun b o q n => k₄ b o n q) ⟨_, e₄, rfl⟩
  refine at_execs (x_asgA (wpAny_Name (n_locE D₄ lk_hd (wpAny_Name (n_locE D₄ (lk_tl lk_hd) ?_)))))
  refine i_set0 D₄.hs.X e₄ fsa76 pass76 ft_what fhas76 fun h₅ xd k₅ q₅ n₅ e₅ d₅ => ?_
  have D₅ : Led W (hid s.heap [e]) L [("what", .str msg tm), ("self", .ref e)] [(e, (· = excRec 76 a1 .none (some xd)))] { s₁ with heap := h₅, toks := s₁.toks + 1 + 2 } :=
    D₄.chg (pre := []) (post := []) (fun b o q n => k₅ b o q n) ⟨_, e₅, rfl⟩
  refine x_nil (ret_n (Q := fun v s' => R (.ok (.ret v)) s') (k _ _ _ D₅.hs e₅ ?_ n₅ ⟨_, _, d₅⟩))
  cases z : s.heap.get? xd with
  | none => rfl
  | some o =>
    have := k₄ xd o n₅ (k₃ _ _ (k' _ _ (st _ _ z)))
    rw [q₅] at this
    cases this
end
end Mine
end

section
open PySem PySem.W PyProof.Rows PySem.Calls PySem.Spec
set_option autoImplicit false
namespace Mine
theorem warmee (w : World) (h : Heap) : (hd.heap_39 w.params).In h → PySem.Challenge.rw_rh0003_01.prog = PySem.Challenge.rw_rh0003_01.prog := by
  k_fill
  intro _
  rfl
section
variable {W : Wd} {G : Heap} {L : Addr} {m : List (Str × Value)} {news : List (Addr × (Obj → Prop))} {s : Shared} {A : Around} {E : Value → Shared → Prop} {env : Env}
  {x : Str} {pos : Pos} {v : Value}
theorem cw_meth {pos : Pos} {q f : Addr} {self : Value} {first : List Value} {env : Env} {e : Expr} {rest : List Expr} {Q : Value → Shared → Prop} (hf : fnIn (hd.heap_39 W.w.params) f = true)
    (h : wpAny (model pw W.w) A (spliced (backTo pos (starEach (e :: rest) env))) (fun vs s₁ => MethP (hd.heap_39 W.w.params) q f self s₁.heap ∧ wpAny (model pw W.w) A (call (.ref q) (first ++ vs)) Q E s₁) E s)
    (he : starEach (e :: rest) env = (false, eval e env) :: starEach rest env := by rfl) (hplain : (backTo pos (starEach rest env)).any (·.1) = false := by rfl) :
    wpAny (model pw W.w) A (callWith pos (.ref q) first (backTo pos (starEach (e :: rest) env)) []) Q E s := by
  rw [he] at h ⊢
  exact callWith_of (by show ((false || (backTo pos (starEach rest env)).any (·.1)) || false) = false; rw [hplain]; rfl) (keeps_M hf) (evalArgs_plain h)
theorem ffn37 : fnIn (hd.heap_39 W.w.params) 37 = true := by k_is
/-- the dict of a fault -/
noncomputable def isF (sp : Int) (o : Obj) : Prop := ∃ h₁ t₁ v₁ h₂ t₂ t₃, o = dictOf [⟨h₁, .str "what" t₁, v₁⟩, ⟨h₂, .str "spot" t₂, .int sp t₃⟩] 2
theorem c_finit {e a0 : Addr} {msg : Str} {tm tsp : Tok} {sp : Int} {Q : Value → Shared → Prop} (hs : Hs W G s) (he : s.heap.get? e = some (excRec 76 a0 .none none)) (hG : G.get? e = none) (hdp : A.depth + 1 < recursionLimit)
    (k : ∀ s' a1 xd, Hs W (hid s.heap [e]) s' → s'.heap.get? e = some (excRec 76 a1 .none (some xd)) → s.heap.get? xd = none → xd ≠ e → (∃ o, s'.heap.get? xd = some o ∧ isF sp o) → Q .none s') :
    wpAny (model pw W.w) A (call (.ref 66) [.ref e, .str msg tm, .int sp tsp]) Q E s := by
  have hs' : Hs W (hid s.heap [e]) s := hs.up (fun b o q => hid_get (hs.keep b o q) fun z => by rw [List.mem_singleton.mp z, hG] at q; cases q) hid_in
  refine wpAny_call (enterAt (f := 66) (args := [.ref e, .str msg tm, .int sp tsp]) [("spot", .int sp tsp), ("what", .str msg tm), ("self", .ref e)] (news := [(e, (· = excRec 76 a0 .none none))]) hs' (fun p hp => by rw [List.mem_singleton.mp hp]; exact ⟨⟨_, he, rfl⟩, hid_none (.head _)⟩) (by simp) (by k_is) (by k_is) (Nat.lt_of_succ_lt hdp) rfl rfl rfl rfl rfl (by decide) fun L s₁ D st hL => ?_)
  refine ks_wpAt_execs_cons (ks_wpAt_Expr_any (ks_wpAt_MethodCall ?_))
  refine ks_wpAt_super_base (ar := _) rfl rfl (by decide) rfl (D.hs.X _ _ (by k_is)) rfl rfl rfl (D.hs.X _ _ (by k_is)) rfl rfl (by decide) (by decide +kernel) ?_
  refine ks_loadName_global rfl rfl (g_blt D (mg_none hs.st fsup) rfl ⟨rfl, ?_⟩)
  refine wpAny_loadName_free rfl rfl rfl ⟨_, D.hs.X _ _ (by k_is), rfl⟩ ?_
  refine n_locE D (lk_tl (lk_tl lk_hd)) ?_
  refine ks_wpAny_isType_cls (D.hs.X _ _ (by k_is)) rfl ⟨rfl, ?_⟩
  obtain ⟨_, he₁, rfl⟩ := D.get (.head _)
  refine ks_wpAny_call_super (D.hs.X _ _ (by k_is)) rfl he₁ rfl (fun c z => by cases z) (looks_mroIn D.hs.X fsub2) (fun h' e' k' => ?_)
  have hsz := Heap.lt_size he₁
  have D₂ : Led W (hid s.heap [e]) L [("spot", .int sp tsp), ("what", .str msg tm), ("self", .ref e)] [(e, (· = excRec 76 a0 .none none))] { s₁ with heap := h' } := D.kept k'
  refine ks_wpAny_getMethod_super (so := s₁.heap.objs.size) (x := e) (D := 76) (C := 76) (f := 37) e' (looks_opaque D₂.hs.X fopq) (mro76 D₂.hs) rfl D₂.hs.X fal76 (D₂.hs.X _ _ (by k_is)) rfl (fun z => ?_) (by decide) ?_
  · refine hideP fun PH1 hPH1 => ?_
    obtain ⟨nm, q, bs, hdct, sn, sub, ab, col, dd, k0, k1, k2, k3, k5, ec⟩ := fcls76 (W := W)
    subst hPH1
    have := D₂.hs.X _ _ ec
    have h2 := k' _ _ he₁
    have z : e = 76 := z
    rw [z] at h2
    rw [h2] at this
    cases this
  have k₃ : ∀ (y : Addr) (o : Obj), h'.get? y = some o → (h'.push (methodObj (.ref 37) (.ref e))).get? y = some o := fun y o q => Heap.get?_push_of_some _ q
  have D₃ : Led W (hid s.heap [e]) L [("spot", .int sp tsp), ("what", .str msg tm), ("self", .ref e)] [(e, (· = excRec 76 a0 .none none))] { s₁ with heap := h'.push (methodObj (.ref 37) (.ref e)), toks := s₁.toks + 1 } :=
    (D₂.kept (s' := { s₁ with heap := h'.push (methodObj (.ref 37) (.ref e)) }) k₃).tok _
  obtain ⟨_, he₃, rfl⟩ := D₃.get (.head _)
  have hq₃ : (h'.push (methodObj (.ref 37) (.ref e))).get? h'.objs.size = some (methodObj (.ref 37) (.ref e)) := Heap.get?_push_size _ rfl
  refine cw_meth ffn37 (self := .ref e) (spliced_more (wpAny_Name (n_locE D₃ (lk_tl lk_hd) (spliced_none ⟨⟨hq₃, D₃.hs.X⟩, ?_⟩))))
  refine wpAny_call (ks_codeAny_call_bound hq₃ ?_)
  have room : (A.deeper (ksEnv (Str.ofString "TextFault.__init__") { kind := ScopeKind.function, names := [("self", NameKind.local), ("what", NameKind.local), ("spot", NameKind.local), ("__class__", NameKind.free), ("super", NameKind.globalImplicit)], isGenerator := false, isCoroutine := false } L 66 (Value.ref 65) 54)).depth < recursionLimit := hdp
  have hoff := hid_none (h := s.heap) (l := [e]) (b := e) (.head _)
  refine c_hinit D₃.hs he₃ hoff room fun s₄ a1 xd H₄ e₄ q₄ n₄ d₄ => ?_
  have D₄ : Led W (hid s.heap [e]) L [("spot", .int sp tsp), ("what", .str msg tm), ("self", .ref e)] [(e, (· = excRec 76 a1 .none (some xd)))] s₄ :=
    D₃.back1 (pre := []) (post := []) H₄ ⟨_, e₄, rfl⟩
  obtain ⟨hh, th, dh⟩ := d₄
  refine at_execs (x_asgA (wpAny_Name (n_locE D₄ lk_hd (wpAny_Name (n_locE D₄ (lk_tl (lk_tl lk_hd)) ?_)))))
  refine o_set D₄.hs.X e₄ rfl rfl rfl dh fsa76 pass76 ft_spot fhas76 rfl (show (2 : Nat) ≤ 1000 by lia) fun h₅ k₅ e₅ => ?_
  have g₅ := k₅ _ _ e₄ (Ne.symm n₄)
  have q₅ : s.heap.get? xd = none := by
    cases z : s.heap.get? xd with
    | none => rfl
    | some o =>
      have := k₃ _ _ (k' _ _ (st _ _ z))
      have q₄ : (h'.push (methodObj (.ref 37) (.ref e))).get? xd = none := q₄
      rw [q₄] at this
      cases this
  refine x_nil (ret_n (k _ _ _ ⟨H₄.st, hs'.top, fun b o z => ?_, H₄.gen.trans rfl, H₄.oss⟩ g₅ q₅ n₄ ⟨_, e₅, ⟨_, _, _, _, _, _, rfl⟩⟩))
  have z' := of_hideAll _ z
  have nb : b ≠ e := fun q => by rw [q, hid_none (.head _)] at z; cases z
  exact k₅ _ _ (H₄.keep _ _ (hid_get (k₃ _ _ (k' _ _ (st _ _ z'))) (by simpa using nb))) fun q => by rw [q, q₅] at z'; cases z'
end
end Mine
end

section
open PySem PySem.W PyProof.Rows
set_option autoImplicit false
namespace Mine
theorem warmef (w : World) (h : Heap) : (hd.heap_39 w.params).In h → PySem.Challenge.rw_rh0003_01.prog = PySem.Challenge.rw_rh0003_01.prog := by
  k_fill
  intro _
  rfl
theorem weight_tc (C : Addr) (rest : List Value) : (Code.builtin "type.__call__" ⟨.ref C :: rest, []⟩).weight = 1 := by rfl
section
variable {W : Wd} {G : Heap} {L : Addr} {m : List (Str × Value)} {news : List (Addr × (Obj → Prop))} {s : Shared} {A : Around} {E : Value → Shared → Prop} {env : Env}
theorem o66 {W : Wd} : ∃ o, (hd.heap_39 W.w.params).lookup 66 = some o ∧ o.cls = .type "function" := by
  refine obj_of (a := 66) (K := hd.heap_39 W.w.params) (o := ⟨_, _, .func _, _⟩) (by k_is) fun e => ?_
  exact ⟨_, e, rfl⟩
theorem fi76 {W : Wd} : PySem.W.findIn (hd.heap_39 W.w.params) (.ref 76) "__init__" = some (some (.ref 66)) := by k_is
theorem Hs.all' (h : Hs W G s) : Hs W s.heap s := h.up h.keep fun _ _ e => e
/-- a fault is made -/
theorem c_fault {msg : Str} {tm tsp : Tok} {sp : Int} {Q : Value → Shared → Prop} (hs : Hs W G s) (hdp : A.depth + 2 < recursionLimit)
    (k : ∀ s' e a1 xd, Hs W s.heap s' → s'.heap.get? e = some (excRec 76 a1 .none (some xd)) → s.heap.get? e = none → s.heap.get? xd = none → xd ≠ e → (∃ o, s'.heap.get? xd = some o ∧ isF sp o) → Q (.ref e) s') :
    wpAny (model pw W.w) A (call (.ref 76) [.str msg tm, .int sp tsp]) Q E s := by
  refine hideP fun PH1 hPH1 => ?_
  obtain ⟨nm, q, bs, hdct, sn, sub, ab, col, dd, k0, k1, k2, k3, k5, ec⟩ := fcls76 (W := W)
  subst hPH1
  obtain ⟨oI, eI, cI⟩ := o66 (W := W)
  refine hideP fun PH2 hPH2 => ?_
  obtain ⟨h, g, d, t, os⟩ := s
  subst hPH2
  refine ex_call PySem.F.excBase_Exception (by decide +kernel) (by decide +kernel) (by decide +kernel) (hs.X _ _ ec) (PySem.W.looks_findIn hs.X fi76) (hs.X _ _ eI) cI fun h' e hm => ?_
  obtain ⟨a0, ht, _, _⟩ := hm.there
  refine c_finit (G := h) (s := ⟨h', g, d, t, os⟩) ((hs.up hs.keep fun _ _ e => e).to hm.keeps) ht hm.new ?_ fun s' a1 xd H₁ e₁ q₁ n₁ d₁ => ⟨rfl, k _ _ _ _ ?_ e₁ hm.new ?_ n₁ d₁⟩
  · show A.depth + _ + 1 < _
    rw [weight_tc]; omega
  · refine H₁.lo (fun b o z => hid_get (hm.keeps b o z) fun y => ?_) hs.all'.top
    rw [List.mem_singleton.mp y, hm.new] at z; cases z
  · cases z : h.get? xd with
    | none => rfl
    | some o => have := hm.keeps _ _ z; rw [q₁] at this; cases this
end
end Mine
end

section
open PySem PySem.W PyProof.Rows
set_option autoImplicit false
namespace Mine
noncomputable abbrev frs (fs : List Env) : List Addr := fs.filterMap (·.frame)

/-- an exception under way: what stood at s₀ stands, but for the frames' slots and the places ds -/
structure Exn (s₀ : Heap) (fs : List Env) (ds : List Addr) (e : Addr) (sp : Int) (tb : Option Value) (h : Heap) : Prop where
  keep : ∀ b o, s₀.get? b = some o → b ∉ frs fs → b ∉ ds → h.get? b = some o
  slots : ∀ b o, s₀.get? b = some o → b ∈ frs fs → ∃ sl, h.get? b = some { o with slots := sl }
  ff : h.FunFrames {} fs
  live : ∀ b o, s₀.get? b = some o → ∃ o', h.get? b = some o'
  new : s₀.get? e = none
  there : ∃ oe vs xd, h.get? e = some oe ∧ oe.cls = .ref 76 ∧ oe.dict = some xd ∧ oe.data = .fields vs ∧ 1 < vs.size ∧
    s₀.get? xd = none ∧ xd ∉ frs fs ∧ (∃ od, h.get? xd = some od ∧ isF sp od) ∧
    (match tb with
     | none => vs[1]? = some .none
     | some fl => ∃ T oT ts, vs[1]? = some (.ref T) ∧ s₀.get? T = none ∧ T ≠ e ∧ h.get? T = some oT ∧ oT.data = .fields ts ∧ ts[3]? = some fl)

theorem isF_data {sp : Int} {o : Obj} (h : isF sp o) : ∀ vs, o.data ≠ .fields vs := by
  refine hideP fun PH1 hPH1 => ?_
  obtain ⟨_, _, _, _, _, _, rfl⟩ := h
  subst hPH1
  intro vs q; cases q

section
variable {M : Model} {A : Around} {E : Value → Shared → Prop} {s : Shared} {s₀ : Heap} {fs : List Env} {ds : List Addr} {env : Env} {L e : Addr} {sp : Int} {tb : Option Value}

/-- the traceback's new entry -/
theorem ex_entry {head : Value} {hadNext : Bool} {Q : Unit → Shared → Prop} (hA : A.frames = some (env :: fs)) (hf : env.frame = some L) (X : Exn s₀ (env :: fs) ds e sp tb s.heap)
    (h : ∀ h', Exn s₀ (env :: fs) ds e sp (some (rawInt L)) h' → Q () { s with heap := h' }) :
    wpAny M A (do let a ← frameOf env; let pl ← entryPlaceOf L hadNext; let b ← EntryCells.newEntry head a .none (rawInt L) .none pl; setField (.ref e) 1 b) Q E s := by
  refine hideP fun PH2 hPH2 => ?_
  obtain ⟨oe, vs, xd, he, hc, hdc, hda, hsz, hx0, hxf, ⟨od, hxd, hod⟩, _⟩ := X.there
  subst hPH2
  have hene : e ∉ frs (env :: fs) := fun hm => by
    obtain ⟨_, o, ho, hnf⟩ := X.ff.mem hm
    rw [he] at ho; injection ho with ho; subst ho; exact hnf vs hda
  have hxe : xd ≠ e := fun z => by rw [z, he] at hxd; cases hxd; exact isF_data hod _ hda
  refine wpAny_bind (wpAny_frameOf_fun hA X.ff hf fun h₁ hs₁ => ?_)
  refine wpAny_bind (wpAny_entryPlaceOf fun pl hpl => ?_)
  unfold EntryCells.newEntry newFields
  refine wpAny_bind (wpAny_newObj_type ?_ (hpl.sizeOk5 _ _ _ _ _))
  have he₁ : h₁.get? e = some oe := (hs₁.2.1 e hene).trans he
  obtain ⟨oT, hto⟩ : ∃ oT : Obj, ({ cls := .type "traceback", dict := none, data := .fields ([head, .ref L, .none, rawInt L, .none] ++ (if pl.isEmpty then List.replicate 6 Value.none else pl)).toArray } : Obj) = oT := ⟨_, rfl⟩
  rw [hto]
  have he₂ := Heap.get?_push_of_some (h := h₁) oT he₁
  refine wpAny_setField he₂ hda hsz (h _ ?_)
  have hTe : h₁.objs.size ≠ e := Nat.ne_of_gt (Heap.lt_size he₁)
  have hd₃ := Obj.data_mapFields hda (·.setIfInBounds 1 (Value.ref h₁.objs.size))
  have he₃ := Heap.get?_update_self (Obj.mapFields (·.setIfInBounds 1 (Value.ref h₁.objs.size))) he₂ (Obj.isFreed_of_fields hd₃)
  have keep : ∀ b o, b ≠ e → h₁.get? b = some o → ((h₁.push oT).update e (Obj.mapFields (·.setIfInBounds 1 (Value.ref h₁.objs.size)))).get? b = some o := fun b o hbe hb => by
    rw [Heap.get?_update_other _ _ (Ne.symm hbe)]
    exact Heap.get?_push_of_some _ hb
  have hT₃ : ((h₁.push oT).update e (Obj.mapFields (·.setIfInBounds 1 (Value.ref h₁.objs.size)))).get? h₁.objs.size = some oT := by
    rw [Heap.get?_update_other _ _ (Ne.symm hTe)]
    exact Heap.get?_push_size h₁ (by rw [← hto]; rfl)
  have live₁ : ∀ b o, s₀.get? b = some o → ∃ o', h₁.get? b = some o' := fun b o hb => let ⟨o', q⟩ := X.live b o hb; let ⟨sl, q'⟩ := hs₁.2.2 b o' q; ⟨_, q'⟩
  have ne : ∀ b o, s.heap.get? b = some o → (∀ vs, o.data ≠ .fields vs) → b ≠ e := fun b o hb hnf q => by
    rw [q, he] at hb; injection hb with hb; subst hb; exact hnf vs hda
  refine ⟨fun b o hb nf nd => keep b o (fun q => by rw [q, X.new] at hb; cases hb) ((hs₁.2.1 b nf).trans (X.keep b o hb nf nd)), fun b o hb hf => ?_, X.ff.of_keeps fun b o hb hnf => ?_, ?_, X.new, ?_⟩
  · obtain ⟨sl, q⟩ := X.slots b o hb hf
    obtain ⟨sl', q'⟩ := hs₁.2.2 b _ q
    exact ⟨sl', keep b _ (fun z => by rw [z, X.new] at hb; cases hb) q'⟩
  · obtain ⟨sl, q⟩ := hs₁.2.2 b o hb
    exact ⟨_, keep b _ (ne b o hb hnf) q, rfl⟩
  · intro b o hb
    obtain ⟨o', q⟩ := live₁ b o hb
    exact ⟨o', keep b o' (fun z => by rw [z, X.new] at hb; cases hb) q⟩
  · refine ⟨_, _, xd, he₃, (Obj.cls_mapFields _ _).trans hc, ?_, hd₃, by simpa using hsz, hx0, hxf, ⟨od, keep xd od hxe ((hs₁.2.1 xd hxf).trans hxd), hod⟩, h₁.objs.size, oT, _, by simp [hsz], ?_, hTe, hT₃, by rw [← hto], ?_⟩
    · obtain ⟨oc, od', odt, osl⟩ := oe
      obtain rfl : odt = .fields vs := hda
      exact hdc
    · cases q : s₀.get? h₁.objs.size with
      | none => rfl
      | some o =>
        obtain ⟨o', q'⟩ := live₁ _ o q
        exact absurd (Heap.lt_size q') (Nat.lt_irrefl _)
    · first | (simp; done) | (rcases hpl with rfl | ⟨_, _, _, _, _, _, _, rfl⟩ <;> simp)

/-- the same traceback, another mark -/
theorem ex_mark {fl fl' : Value} {T : Addr} {oT : Obj} {ts : Array Value} (X : Exn s₀ fs ds e sp (some fl) s.heap)
    (hT : s.heap.get? T = some oT) (hdT : oT.data = .fields ts) (hsz : 3 < ts.size)
    (hx : ∃ oe vs, s.heap.get? e = some oe ∧ oe.data = .fields vs ∧ vs[1]? = some (.ref T)) :
    Exn s₀ fs ds e sp (some fl') (s.heap.update T (Obj.mapFields (·.setIfInBounds 3 fl'))) := by
  refine hideP fun PH3 hPH3 => ?_
  obtain ⟨oe, vs, xd, he, hc, hdc, hda, hs1, hx0, hxf, ⟨od, hxd, hod⟩, T', oT', ts', h1, hT0, hTe, hT', hdT', _⟩ := X.there
  subst hPH3
  refine hideP fun PH4 hPH4 => ?_
  obtain ⟨oe2, vs2, he2, hd2, h12⟩ := hx
  subst hPH4
  obtain rfl : oe = oe2 := Option.some.inj (he.symm.trans he2)
  obtain rfl : vs = vs2 := by rw [hda] at hd2; cases hd2; rfl
  obtain rfl : T' = T := by rw [h1] at h12; cases h12; rfl
  obtain rfl : oT' = oT := Option.some.inj (hT'.symm.trans hT)
  have other : ∀ b, b ≠ T' → (s.heap.update T' (Obj.mapFields (·.setIfInBounds 3 fl'))).get? b = s.heap.get? b := fun b hb => Heap.get?_update_other _ _ (Ne.symm hb)
  have ne : ∀ b o, s.heap.get? b = some o → (∀ vs, o.data ≠ .fields vs) → b ≠ T' := fun b o hb hnf q => by
    rw [q, hT] at hb; injection hb with hb; subst hb; exact hnf ts hdT
  refine ⟨fun b o hb nf nd => (other b fun q => by rw [q, hT0] at hb; cases hb).trans (X.keep b o hb nf nd), fun b o hb hf => ?_, X.ff.of_keeps fun b o hb hnf => ⟨o, (other b (ne b o hb hnf)).trans hb, rfl⟩, ?_, X.new, ?_⟩
  · obtain ⟨sl, q⟩ := X.slots b o hb hf
    exact ⟨sl, (other b fun z => by rw [z, hT0] at hb; cases hb).trans q⟩
  · intro b o hb
    obtain ⟨o', q⟩ := X.live b o hb
    exact ⟨o', (other b fun z => by rw [z, hT0] at hb; cases hb).trans q⟩
  · exact ⟨oe, vs, xd, (other e (Ne.symm hTe)).trans he, hc, hdc, hda, hs1, hx0, hxf, ⟨od, (other xd (ne xd od hxd (isF_data hod))).trans hxd, hod⟩, T', _, _, h1, hT0, hTe,
      Heap.get?_update_self _ hT (Obj.isFreed_of_fields (Obj.data_mapFields hdT _)), Obj.data_mapFields hdT _, by simp [hsz]⟩

theorem ex_flight {fl : Value} {to : Option Addr} {Q : Unit → Shared → Prop} (X : Exn s₀ fs ds e sp (some fl) s.heap)
    (h : ∀ h', Exn s₀ fs ds e sp (some (to.elim .none fun f => rawInt f)) h' → Q () { s with heap := h' }) : wpAny M A (setFlight (.ref e) to) Q E s := by
  refine hideP fun PH5 hPH5 => ?_
  obtain ⟨oe, vs, xd, he, hc, hdc, hda, hs1, hx0, hxf, ⟨od, hxd, hod⟩, T, oT, ts, h1, hT0, hTe, hT, hdT, h3⟩ := X.there
  subst hPH5
  have hsz := (Array.getElem?_eq_some_iff.mp h3).1
  unfold setFlight
  refine wpAny_bind (wpAny_field he hda h1 ?_)
  rw [if_pos (show (Value.ref T != Value.none) = true from by simp)]
  exact wpAny_setField hT hdT hsz (h _ (ex_mark X hT hdT hsz ⟨oe, vs, he, hda, h1⟩))

/-- where an exception may be on its way out of the frame L -/
noncomputable def Way (L : Addr) (tb : Option Value) : Prop := tb = none ∨ tb = some .none ∨ tb = some (rawInt L)
theorem ex_note {Q : Unit → Shared → Prop} (hA : A.frames = some (env :: fs)) (hf : env.frame = some L) (X : Exn s₀ (env :: fs) ds e sp tb s.heap) (hw : Way L tb)
    (h : ∀ h', Exn s₀ (env :: fs) ds e sp (some (rawInt L)) h' → Q () { s with heap := h' }) : wpAny M A (noteFrame (.ref e) env) Q E s := by
  unfold noteFrame
  simp only [hf]
  rcases hw with rfl | rfl | rfl
  · refine hideP fun PH6 hPH6 => ?_
    obtain ⟨oe, vs, xd, he, hc, hdc, hda, hs1, hx0, hxf, ⟨od, hxd, hod⟩, h1⟩ := X.there
    subst hPH6
    refine wpAny_bind (wpAny_field he hda h1 ?_)
    first | refine if_no rfl ?_ | rw [if_neg (by decide)]
    exact ex_entry hA hf X h
  · refine hideP fun PH7 hPH7 => ?_
    obtain ⟨oe, vs, xd, he, hc, hdc, hda, hs1, hx0, hxf, ⟨od, hxd, hod⟩, T, oT, ts, h1, hT0, hTe, hT, hdT, h3⟩ := X.there
    subst hPH7
    have hsz := (Array.getElem?_eq_some_iff.mp h3).1
    refine wpAny_bind (wpAny_field he hda h1 ?_)
    rw [if_pos (show (Value.ref T != Value.none) = true from by simp)]
    refine wpAny_bind (wpAny_field hT hdT h3 ?_)
    rw [if_neg (show ¬ ((Value.none == rawInt L) = true) from by simp [rawInt])]
    refine wpAny_bind (wpAny_setField hT hdT hsz ?_)
    exact ex_entry (s := { s with heap := _ }) hA hf (ex_mark X hT hdT hsz ⟨oe, vs, he, hda, h1⟩) h
  · refine hideP fun PH8 hPH8 => ?_
    obtain ⟨oe, vs, xd, he, hc, hdc, hda, hs1, hx0, hxf, ⟨od, hxd, hod⟩, T, oT, ts, h1, hT0, hTe, hT, hdT, h3⟩ := X.there
    subst hPH8
    refine wpAny_bind (wpAny_field he hda h1 ?_)
    rw [if_pos (show (Value.ref T != Value.none) = true from by simp)]
    refine wpAny_bind (wpAny_field hT hdT h3 ?_)
    rw [if_pos (show (rawInt L == rawInt L) = true from by simp)]
    exact wpAny_pure (h _ X)

theorem ex_leave {Q : Unit → Shared → Prop} (hA : A.frames = some (env :: fs)) (hf : env.frame = some L) (X : Exn s₀ (env :: fs) ds e sp tb s.heap) (hw : Way L tb)
    (h : ∀ h', Exn s₀ (env :: fs) ds e sp (some .none) h' → Q () { s with heap := h' }) : wpAny M A (leaving env (.ref e)) Q E s := by
  unfold leaving
  exact wpAny_bind (ex_note hA hf X hw fun h' X' => ex_flight (s := { s with heap := h' }) X' h)
theorem ex_back {Q : Value → Shared → Prop} (hA : A.frames = some (env :: fs)) (hf : env.frame = some L) (X : Exn s₀ (env :: fs) ds e sp tb s.heap) (hw : Way L tb)
    (h : ∀ h', Exn s₀ (env :: fs) ds e sp (some (rawInt L)) h' → E (.ref e) { s with heap := h' }) : notedBy M A env (cameBackBy M A env E) (.ref e) s := by
  show wpAny M A (noteFrame (.ref e) env) _ _ s
  refine ex_note hA hf X hw fun h₁ X₁ => ?_
  show wpAny M A (do
    if (← field (.ref e) 1) == .none then unsupported "frame.own-activation:exception-without-traceback"
    setFlight (.ref e) env.frame) _ _ _
  refine hideP fun PH9 hPH9 => ?_
  obtain ⟨oe, vs, xd, he, hc, hdc, hda, hs1, hx0, hxf, ⟨od, hxd, hod⟩, T, oT, ts, h1, hT0, hTe, hT, hdT, h3⟩ := X₁.there
  subst hPH9
  refine wpAny_bind (wpAny_field he hda h1 ?_)
  rw [if_neg (show ¬ ((Value.ref T == Value.none) = true) from by simp)]
  rw [hf]
  exact ex_flight (s := { s with heap := h₁ }) X₁ h

/-- seen from an earlier heap, fewer frames -/
theorem Exn.out {s₁ : Heap} {ds' : List Addr} (X : Exn s₁ (env :: fs) ds' e sp tb s.heap) (hL : env.frame = some L) (n : s₀.get? L = none)
    (k : ∀ b o, s₀.get? b = some o → b ∉ ds → s₁.get? b = some o) (kd : ∀ b, b ∈ ds → ∀ o, s₀.get? b = some o → ∃ o', s₁.get? b = some o') (hfd : ∀ b ∈ ds, b ∉ frs fs) (hd : ∀ b o, b ∈ ds' → s₀.get? b = some o → b ∈ ds) : Exn s₀ fs ds e sp tb s.heap := by
  have fe : frs (env :: fs) = L :: frs fs := by simp [frs, hL]
  have back : ∀ b, s₁.get? b = none → s₀.get? b = none := fun b hb => by
    cases q : s₀.get? b with
    | none => rfl
    | some o =>
      by_cases hbd : b ∈ ds
      · obtain ⟨o', q'⟩ := kd b hbd o q
        rw [hb] at q'; cases q'
      · rw [k b o q hbd] at hb; cases hb
  refine hideP fun PH10 hPH10 => ?_
  obtain ⟨oe, vs, xd, he, hc, hdc, hda, hs1, hx0, hxf, hod, ht⟩ := X.there
  subst hPH10
  refine ⟨fun b o hb nf nd => X.keep b o (k b o hb nd) (fun z => ?_) fun z => nd (hd b o z hb), fun b o hb hf => ?_, X.ff.2.2, fun b o hb => ?_, back _ X.new, oe, vs, xd, he, hc, hdc, hda, hs1, back _ hx0, fun z => hxf (by rw [fe]; exact .tail _ z), hod, ?_⟩
  · rw [fe] at z
    rcases List.mem_cons.mp z with rfl | z
    · rw [n] at hb; cases hb
    · exact nf z
  · exact X.slots b o (k b o hb fun z => hfd b z hf) (by rw [fe]; exact .tail _ hf)
  · by_cases hbd : b ∈ ds
    · obtain ⟨o', q'⟩ := kd b hbd o hb
      exact X.live b o' q'
    · exact X.live b o (k b o hb hbd)
  · cases tb with
    | none => exact ht
    | some fl =>
      refine hideP fun PH11 hPH11 => ?_
      obtain ⟨T, oT, ts, h1, hT0, r⟩ := ht
      subst hPH11
      exact ⟨T, oT, ts, h1, back _ hT0, r⟩
end
end Mine
end

section
open PySem PySem.W PyProof.Rows PySem.Calls PySem.Spec
set_option autoImplicit false
namespace Mine
structure Cx (A : Around) (fs : List Env) (n : Nat) : Prop where
  dep : A.depth + n ≤ 940
  un : A.units + 8 * n ≤ 9000
  hd : A.handled = none
  fr : A.frames = some fs
theorem Cx.deep {A : Around} {fs : List Env} {n : Nat} (c : Cx A fs (n + 1)) (env : Env) : Cx (A.deeper env) (env :: fs) n :=
  ⟨by have := c.dep; show A.depth + 1 + n ≤ _; lia, by have := c.un; show A.units + 3 + 8 * n ≤ _; lia, c.hd, by show A.frames.map _ = _; rw [c.fr]; rfl⟩
theorem Cx.room {A : Around} {fs : List Env} {n : Nat} (c : Cx A fs n) : A.depth < recursionLimit := by
  have := c.dep; show A.depth < 1000; lia
theorem Cx.less {A : Around} {fs : List Env} {n k : Nat} (c : Cx A fs n) (h : k ≤ n) : Cx A fs k := ⟨by have := c.dep; lia, by have := c.un; lia, c.hd, c.fr⟩

theorem warmeh (w : World) (h : Heap) : (hd.heap_39 w.params).In h → PySem.Challenge.rw_rh0003_01.prog = PySem.Challenge.rw_rh0003_01.prog := by
  k_fill
  intro _
  rfl
section
variable {W : Wd} {G : Heap} {L : Addr} {m : List (Str × Value)} {news : List (Addr × (Obj → Prop))} {s : Shared} {A : Around} {E : Value → Shared → Prop} {env : Env} {fs : List Env}
theorem ffs {G' : Heap} (f : G.FunFrames {} fs) (k : G.StaysIn G') : G'.FunFrames {} fs := f.of_keeps fun b o h _ => ⟨o, k b o h, rfl⟩
theorem Led.ffv (D : Led W G L m news s) (f : G.FunFrames {} fs) (ds : List Addr) (hds : ∀ d ∈ ds, G.get? d = none ∧ d ≠ L) (hk : env.scope.kind ≠ .module) (hf : env.frame = some L) : (hid s.heap ds).FunFrames {} (env :: fs) := by
  obtain ⟨m₀, ⟨o, es, ep, ho, hd, r⟩, hm⟩ := D.ns
  refine ⟨hk, ⟨L, o, hf, get_nil _, hid_get ho fun z => (hds L z).2 rfl, fun vs q => by rw [hd] at q; cases q⟩, ffs f fun b o e => hid_get (D.hs.keep b o e) fun z => ?_⟩
  rw [(hds b z).1] at e; cases e

/-- an exception out of a callee -/
structure Out (W : Wd) (s₀ : Heap) (fs : List Env) (ds : List Addr) (e : Addr) (sp : Int) (tb : Option Value) (s : Shared) : Prop where
  x : Exn s₀ fs ds e sp tb s.heap
  gen : s.gens = W.gens
  oss : s.os = W.os

theorem lv {s₀ : Heap} {s₁ s' : Shared} {ds ds' : List Addr} {e : Addr} {sp : Int} {tb : Option Value} {n : Nat} (c : Cx A fs n) (D : Led W (hid s₀ ds) L m news s₁) (hL : s₀.get? L = none) (hf : env.frame = some L)
    (f : (hid s₀ ds).FunFrames {} fs) (hds : ∀ d ∈ ds, ∃ p ∈ news, p.1 = d) (hd' : ∀ b o, b ∈ ds' → s₀.get? b = some o → b ∈ ds)
    (X : Out W s₁.heap (env :: fs) ds' e sp tb s') (hw : Way L tb)
    (hE : ∀ s'', Out W s₀ fs ds e sp (some .none) s'' → E (.ref e) s'') : LeaveE W (A.deeper env) env E (.ref e) s' := by
  refine ex_leave (s := s') (fs := fs) (by show A.frames.map _ = _; rw [c.fr]; rfl) hf X.x hw fun h'' X'' => hE _ ⟨?_, X.gen, X.oss⟩
  refine Exn.out (s := { s' with heap := h'' }) X'' hf hL (fun b o q nd => D.hs.keep b o (hid_get q nd)) (fun b hb o q => ?_) (fun b hb z => ?_) hd'
  · obtain ⟨p, hp, rfl⟩ := hds b hb
    obtain ⟨o', q', _⟩ := D.get hp
    exact ⟨o', q'⟩
  · obtain ⟨_, o, q, _⟩ := f.mem z
    rw [hid_none hb] at q; cases q
/-- the way out of a loop -/
theorem tn {s₁ s' : Shared} {ds' : List Addr} {e : Addr} {sp : Int} {tb : Option Value} {n : Nat} (c : Cx A fs n) (hf : env.frame = some L)
    (X : Out W s₁.heap (env :: fs) ds' e sp tb s') (hw : Way L tb)
    (hE : ∀ s'', Out W s₁.heap (env :: fs) ds' e sp (some (rawInt L)) s'' → E (.ref e) s'') : TurnE W (A.deeper env) env E (.ref e) s' := by
  refine ex_back (Q := fun _ _ => True) (s := s') (fs := fs) (by show A.frames.map _ = _; rw [c.fr]; rfl) hf X.x hw fun h'' X'' => hE _ ⟨X'', X.gen, X.oss⟩

/-- raise TextFault(..) -/
theorem x_raise {x : Str} {np cpos pos : Pos} {args : List Expr} {rest : List Stmt} {Q : Flow → Shared → Prop} (hh : A.handled = none)
    (h : wpAny (model pw W.w) A (eval (.Call (.Name x np) args [] cpos) env) (fun v s₁ => ∃ e a1 xd, v = .ref e ∧ Hs W G s₁ ∧ s₁.heap.get? e = some (excRec 76 a1 .none (some xd)) ∧ E (.ref e) s₁) E s) :
    wpAny (model pw W.w) A (execs (.Raise (some (.Call (.Name x np) args [] cpos)) none pos :: rest) env) Q E s := by
  refine wpAny_execs_cons ?_
  rw [arm_exec_Raise]
  have core : wpAny (model pw W.w) A (raiseStmt env (some (do let v ← eval (.Call (.Name x np) args [] cpos) env; standAt pos; pure v)) none) (fun f s' => match f with | .next => wpAny (model pw W.w) A (execs rest env) Q E s' | f => Q f s') E s := by
    refine hideP fun PH1 hPH1 => ?_
    obtain ⟨nm, q, bs, hdct, sn, sub, ab, col, dd, k0, k1, k2, k3, k5, ec⟩ := fcls76 (W := W)
    subst hPH1
    have hcB : (Value.ref 76 :: [.ref 47, .type "Exception", .type "BaseException", .type "object"]).contains (.type "BaseException") = true := by decide +kernel
    unfold raiseStmt
    refine wpAny_bind (wpAny_bind (wpAny_mono h (fun v s₁ h₁ => wpAny_bind (wpAny_standAt (wpAny_pure ?_))) fun _ _ x => x))
    refine hideP fun PH2 hPH2 => ?_
    obtain ⟨e, a1, xd, rfl, H, he, hE⟩ := h₁
    subst hPH2
    have hC := H.X _ _ ec
    refine hideP fun PH3 hPH3 => ?_
    obtain ⟨hp, g, d, tk, os⟩ := s₁
    subst hPH3
    repeat (first | with_reducible refine wpAny_loadPart_at he ?_ | with_reducible refine wpAny_loadPart_at hC ?_ | (with_reducible refine wpAny_isSubtype_exc hC ?_; rw [hcB]) | wp_step)
    exact wpAny_raiseNew_none hh hE
  exact wpAny_bind (wpAny_standAt core)
theorem fmg76 : nsIn (hd.heap_39 W.w.params) mainGlobals "TextFault" = some (some (.ref 76)) := by k_is
theorem fkp76 : keepIn (hd.heap_39 W.w.params) (.ref 76) = true := by k_is
theorem x_fault {np cpos pos : Pos} {ae : Expr} {args : List Expr} {rest : List Stmt} {Q : Flow → Shared → Prop} {n : Nat} {qn : Str} {sc : Scope} {fa : Addr} {cd : Value} (c : Cx A fs (n + 2)) (hfr : env.frame = some L) (D : Led W G L m news s) (henv : env = envOf qn sc L fa cd) (hff : G.FunFrames {} fs)
    (h : wpAny (model pw W.w) (A.deeper env) (spliced (backTo cpos (starEach (ae :: args) env))) (fun vs s₁ => ∃ msg tm sp tsp, vs = [.str msg tm, .int sp tsp] ∧ Led W G L m news s₁ ∧
      (∀ s' e, Out W s₁.heap (env :: fs) [] e sp none s' → E (.ref e) s')) E s)
    (hk : sc.kind = .function := by rfl) (hl : (envOf qn sc L fa cd).kindOf "TextFault" = some .globalImplicit := by rfl)
    (he : starEach (ae :: args) env = (false, eval ae env) :: starEach args env := by rfl) (hplain : (backTo cpos (starEach args env)).any (·.1) = false := by rfl) :
    wpAny (model pw W.w) (A.deeper env) (execs (.Raise (some (.Call (.Name "TextFault" np) (ae :: args) [] cpos)) none pos :: rest) env) Q E s := by
  refine x_raise (G := W.H) c.hd (Call_ ?_)
  subst henv
  refine n_glb D (mg_some D.hs.st fmg76) ?_ hk hl
  refine callWith_K D.hs.X fkp76 (wpAny_mono h (fun vs s₁ h₁ => ?_) fun _ _ z => z) he hplain
  refine hideP fun PH4 hPH4 => ?_
  obtain ⟨msg, tm, sp, tsp, rfl, D₁, hE⟩ := h₁
  subst hPH4
  refine ⟨D₁.hs.X, c_fault D₁.hs (by have := c.dep; show A.depth + 1 + 2 < 1000; lia) fun s' e a1 xd H e₁ q₁ q₂ n₁ d₁ => ?_⟩
  refine ⟨e, a1, xd, rfl, H.lo H.top fun _ _ z => z, e₁, hE s' e ⟨⟨fun b o z _ _ => H.keep b o z, fun b o z _ => ⟨o.slots, H.keep b o z⟩, ?_, fun b o z => ⟨o, H.keep b o z⟩, q₁, _, _, xd, e₁, rfl, rfl, rfl, (show 1 < 6 by lia), q₂, fun hm => ?_, d₁, rfl⟩, H.gen, H.oss⟩⟩
  · have f := (D₁.back0 H).ffv (env := envOf qn sc L fa cd) hff [] (fun _ h => nomatch h) (by show sc.kind ≠ _; rw [hk]; decide) rfl
    exact ffs f hid_in
  · have f := (D₁).ffv (env := envOf qn sc L fa cd) hff [] (fun _ h => nomatch h) (by show sc.kind ≠ _; rw [hk]; decide) rfl
    obtain ⟨_, o, q, _⟩ := f.mem hm
    have := hid_in _ _ q
    rw [q₂] at this; cases this
end
end Mine
end

section
open PySem PySem.W PyProof.Rows PySem.Calls PySem.Spec
set_option autoImplicit false
namespace Mine
theorem warmra (w : World) (h : Heap) : (hd.heap_39 w.params).In h → PySem.Challenge.rw_rh0003_01.prog = PySem.Challenge.rw_rh0003_01.prog := by
  k_fill
  intro _
  rfl
noncomputable abbrev nw (ws : List (Str × Int)) (p : Nat) : Str := (ws.getD p ("", 0)).1
noncomputable abbrev ns (ws : List (Str × Int)) (p : Nat) : Int := (ws.getD p ("", 0)).2
theorem nw_at {ws : List (Str × Int)} {p : Nat} (h : p < ws.length) : ws[p]? = some (nw ws p, ns ws p) := by
  rw [List.getElem?_eq_getElem h, Option.some.injEq]
  simp [nw, ns, List.getD_eq_getElem?_getD, h]

section K
variable {W : Wd}
theorem rf_spot : findIn (hd.heap_39 W.w.params) (.ref 258) "spot" = some (some (.ref 173)) := by k_is
theorem rf_take : findIn (hd.heap_39 W.w.params) (.ref 258) "take" = some (some (.ref 180)) := by k_is
theorem rf_want : findIn (hd.heap_39 W.w.params) (.ref 258) "want" = some (some (.ref 187)) := by k_is
theorem rf_op : findIn (hd.heap_39 W.w.params) (.ref 258) "op" = some (some (.ref 194)) := by k_is
theorem rf_begin : findIn (hd.heap_39 W.w.params) (.ref 258) "begin" = some (some (.ref 201)) := by k_is
theorem rf_close : findIn (hd.heap_39 W.w.params) (.ref 258) "close" = some (some (.ref 208)) := by k_is
theorem rf_variable : findIn (hd.heap_39 W.w.params) (.ref 258) "variable" = some (some (.ref 215)) := by k_is
theorem rf_term : findIn (hd.heap_39 W.w.params) (.ref 258) "term" = some (some (.ref 222)) := by k_is
theorem rf_places : findIn (hd.heap_39 W.w.params) (.ref 258) "places" = some (some (.ref 241)) := by k_is
theorem rf_papers : findIn (hd.heap_39 W.w.params) (.ref 258) "papers" = some (some (.ref 248)) := by k_is
theorem rf_paper : findIn (hd.heap_39 W.w.params) (.ref 258) "paper" = some (some (.ref 255)) := by k_is
theorem k166 : keepIn (hd.heap_39 W.w.params) (.ref 166) = true := by k_is
theorem k173 : keepIn (hd.heap_39 W.w.params) (.ref 173) = true := by k_is
theorem k180 : keepIn (hd.heap_39 W.w.params) (.ref 180) = true := by k_is
theorem k187 : keepIn (hd.heap_39 W.w.params) (.ref 187) = true := by k_is
theorem k194 : keepIn (hd.heap_39 W.w.params) (.ref 194) = true := by k_is
theorem k201 : keepIn (hd.heap_39 W.w.params) (.ref 201) = true := by k_is
theorem k208 : keepIn (hd.heap_39 W.w.params) (.ref 208) = true := by k_is
theorem k215 : keepIn (hd.heap_39 W.w.params) (.ref 215) = true := by k_is
theorem k222 : keepIn (hd.heap_39 W.w.params) (.ref 222) = true := by k_is
theorem k241 : keepIn (hd.heap_39 W.w.params) (.ref 241) = true := by k_is
theorem k248 : keepIn (hd.heap_39 W.w.params) (.ref 248) = true := by k_is
theorem k255 : keepIn (hd.heap_39 W.w.params) (.ref 255) = true := by k_is
theorem rt_place : takerIn (hd.heap_39 W.w.params) 258 "place" = some none := by k_is
theorem rt_deep : takerIn (hd.heap_39 W.w.params) 258 "deep" = some none := by k_is
theorem fnk {f : Addr} (h : keepIn (hd.heap_39 W.w.params) (.ref f) = true) (hh : isFn (hd.heap_39 W.w.params) (.ref f) = true) : True := trivial
theorem i173 : isFn (hd.heap_39 W.w.params) (.ref 173) = true := by k_is
theorem i180 : isFn (hd.heap_39 W.w.params) (.ref 180) = true := by k_is
theorem i187 : isFn (hd.heap_39 W.w.params) (.ref 187) = true := by k_is
theorem i194 : isFn (hd.heap_39 W.w.params) (.ref 194) = true := by k_is
theorem i201 : isFn (hd.heap_39 W.w.params) (.ref 201) = true := by k_is
theorem i208 : isFn (hd.heap_39 W.w.params) (.ref 208) = true := by k_is
theorem i215 : isFn (hd.heap_39 W.w.params) (.ref 215) = true := by k_is
theorem i222 : isFn (hd.heap_39 W.w.params) (.ref 222) = true := by k_is
theorem i241 : isFn (hd.heap_39 W.w.params) (.ref 241) = true := by k_is
theorem i248 : isFn (hd.heap_39 W.w.params) (.ref 248) = true := by k_is
theorem i255 : isFn (hd.heap_39 W.w.params) (.ref 255) = true := by k_is
end K

section
variable {W : Wd} {G : Heap} {L : Addr} {m : List (Str × Value)} {news pre post : List (Addr × (Obj → Prop))} {s : Shared} {A : Around} {E : Value → Shared → Prop} {Q : Value → Shared → Prop} {x dx : Addr} {r : RK} {ws : List (Str × Int)} {p d : Nat} {env : Env}

/-- a method of the reader is called -/
theorem r_call0 {o name : Str} {p1 p2 p3 : Pos} {qn : Str} {sc : Scope} {fa f : Addr} {cd : Value} {pl : Sem Bool} (D : Led W G L m news s) (hv : lk m o = some (.ref x)) (hx : G.get? x = some (instObj 258 dx)) (hdx : ∃ o, s.heap.get? dx = some o ∧ isR r p d o)
    (hf : findIn (hd.heap_39 W.w.params) (.ref 258) name = some (some (.ref f))) (hi : isFn (hd.heap_39 W.w.params) (.ref f) = true) (hkp : keepIn (hd.heap_39 W.w.params) (.ref f) = true)
    (h : wpAny (model pw W.w) A (call (.ref f) [.ref x]) Q E s) (hl : ∀ t u, getL name (r.es (.int p t) (.int d u)) = some none := by intro _ _; rfl)
    (hk : sc.kind = .function := by rfl) (hlo : (envOf qn sc L fa cd).kindOf o = some .local := by rfl) (hdb : (o == ("__debug__" : Str)) = false := by decide)
    (he : eval (.Call (.Attribute (.Name o p1) name p2) [] [] p3) (envOf qn sc L fa cd) = (do let ov ← eval (.Name o p1) (envOf qn sc L fa cd); standAt p2.atName; let (f, first) ← holding [ov] (getMethod ov name pl); callWith p3 f first (backTo p3 (starEach [] (envOf qn sc L fa cd))) []) := by with_unfolding_all rfl) :
    wpAny (model pw W.w) A (eval (.Call (.Attribute (.Name o p1) name p2) [] [] p3) (envOf qn sc L fa cd)) Q E s := by
  refine hideP fun PH1 hPH1 => ?_
  obtain ⟨_, hdx, t, u, rfl⟩ := hdx
  subst hPH1
  exact MethodCall_ (pl := pl) (n_loc D hv (i_meth D.hs.X (D.at hx) hdx (rplain _) hf hi (hl t u) (callWith_K0 D.hs.X hkp h)) hk hlo hdb) he
theorem r_call1 {o name : Str} {p1 p2 p3 : Pos} {qn : Str} {sc : Scope} {fa f : Addr} {cd : Value} {pl : Sem Bool} {ae : Expr} (D : Led W G L m news s) (hv : lk m o = some (.ref x)) (hx : G.get? x = some (instObj 258 dx)) (hdx : ∃ o, s.heap.get? dx = some o ∧ isR r p d o)
    (hf : findIn (hd.heap_39 W.w.params) (.ref 258) name = some (some (.ref f))) (hi : isFn (hd.heap_39 W.w.params) (.ref f) = true) (hkp : keepIn (hd.heap_39 W.w.params) (.ref f) = true)
    (h : wpAny (model pw W.w) A (eval ae (envOf qn sc L fa cd)) (fun v s₁ => Hs W G s₁ ∧ wpAny (model pw W.w) A (call (.ref f) [.ref x, v]) Q E s₁) E s) (hl : ∀ t u, getL name (r.es (.int p t) (.int d u)) = some none := by intro _ _; rfl)
    (hk : sc.kind = .function := by rfl) (hlo : (envOf qn sc L fa cd).kindOf o = some .local := by rfl) (hdb : (o == ("__debug__" : Str)) = false := by decide)
    (he : eval (.Call (.Attribute (.Name o p1) name p2) [ae] [] p3) (envOf qn sc L fa cd) = (do let ov ← eval (.Name o p1) (envOf qn sc L fa cd); standAt p2.atName; let (f, first) ← holding [ov] (getMethod ov name pl); callWith p3 f first (backTo p3 (starEach [ae] (envOf qn sc L fa cd))) []) := by with_unfolding_all rfl)
    (hs : starEach [ae] (envOf qn sc L fa cd) = (false, eval ae (envOf qn sc L fa cd)) :: starEach [] (envOf qn sc L fa cd) := by rfl) :
    wpAny (model pw W.w) A (eval (.Call (.Attribute (.Name o p1) name p2) [ae] [] p3) (envOf qn sc L fa cd)) Q E s := by
  refine hideP fun PH2 hPH2 => ?_
  obtain ⟨_, hdx, t, u, rfl⟩ := hdx
  subst hPH2
  refine MethodCall_ (pl := pl) (n_loc D hv (i_meth D.hs.X (D.at hx) hdx (rplain _) hf hi (hl t u) ?_) hk hlo hdb) he
  exact callWith_K D.hs.X hkp (spliced_more (wpAny_mono h (fun v s₁ h₁ => spliced_none ⟨h₁.1.X, h₁.2⟩) fun _ _ z => z) hs) hs rfl

theorem c_spot (hs : Hs W G s) (R : Rdr G x dx r ws) (hdx : ∃ o, s.heap.get? dx = some o ∧ isR r p d o) (hw : p < ws.length) (hd : A.depth < recursionLimit)
    (k : ∀ s' t, Hs W s.heap s' → Q (.int (ns ws p) t) s') : wpAny (model pw W.w) A (call (.ref 173) [.ref x]) Q E s := by
  have R := R.mono hs.keep
  refine hideP fun PH3 hPH3 => ?_
  obtain ⟨_, hdx, tp, td, rfl⟩ := hdx
  subst hPH3
  obtain ⟨items, n, hl, hi⟩ := R.lst
  refine hideP fun PH4 hPH4 => ?_
  obtain ⟨ta, n', t, t', h1, h2⟩ := hi p _ _ (nw_at hw)
  subst hPH4
  have hp : p < 2 ^ 63 := by have := R.len; lia
  refine enterC [("self", .ref x)] (news := []) hs.all (fun _ h => nomatch h) List.nodup_nil (by k_is) (by k_is) hd rfl rfl rfl rfl rfl (by decide) fun L s₁ D st hL => ?_
  with_reducible refine x_ret ?_
  with_reducible refine Subscript_ ?_
  with_reducible refine Subscript_ ?_
  refine r_attr D lk_hd R.inst (D.at hdx) rf_words rfl rfl fun s₂ D₂ e₂ => ?_
  refine r_attr D₂ lk_hd R.inst (D₂.at hdx) rf_place rfl rfl fun s₃ D₃ e₃ => ?_
  refine li_get (D₃.at hl) rfl hp h1 ?_
  refine e_int D₃ fun s₄ t₄ D₄ => ?_
  refine tu_get (D₄.at h2) (by decide) (by decide) rfl rfl ?_
  exact ret_v (k _ _ D₄.hs)

theorem mv_dx (hs : Hs W G s) (hG : G.get? dx = none) : Hs W (hid s.heap [dx]) s ∧ G.StaysIn (hid s.heap [dx]) := by
  have st : G.StaysIn (hid s.heap [dx]) := fun b o e => hid_get (hs.keep b o e) fun z => by rw [List.mem_singleton.mp z, hG] at e; cases e
  exact ⟨hs.up st hid_in, st⟩

theorem r_setp {Q : Unit → Shared → Prop} {p' : Nat} {t : Tok} (D : Led W G L m (pre ++ (dx, isR r p d) :: post) s) (hx : G.get? x = some (instObj 258 dx)) (h : ∀ s', Led W G L m (pre ++ (dx, isR r p' d) :: post) s' → Q () s') :
    wpAny (model pw W.w) A (setAttr (.ref x) "place" (.int p' t)) Q E s := by
  refine hideP fun PH5 hPH5 => ?_
  obtain ⟨_, hdx, tp, td, rfl⟩ := D.get (p := (dx, isR r p d)) (by simp)
  subst hPH5
  exact i_set D.hs.X (D.at hx) hdx rsa rover rt_place rhas rfl (show (4 : Nat) ≤ 1000 by lia) fun h' k e => h _ (D.chg (s' := { s with heap := h', toks := s.toks + 2 }) k ⟨_, e, t, td, rfl⟩)
theorem r_setd {Q : Unit → Shared → Prop} {d' : Nat} {t : Tok} (D : Led W G L m (pre ++ (dx, isR r p d) :: post) s) (hx : G.get? x = some (instObj 258 dx)) (h : ∀ s', Led W G L m (pre ++ (dx, isR r p d') :: post) s' → Q () s') :
    wpAny (model pw W.w) A (setAttr (.ref x) "deep" (.int d' t)) Q E s := by
  refine hideP fun PH6 hPH6 => ?_
  obtain ⟨_, hdx, tp, td, rfl⟩ := D.get (p := (dx, isR r p d)) (by simp)
  subst hPH6
  exact i_set D.hs.X (D.at hx) hdx rsa rover rt_deep rhas rfl (show (4 : Nat) ≤ 1000 by lia) fun h' k e => h _ (D.chg (s' := { s with heap := h', toks := s.toks + 2 }) k ⟨_, e, tp, t, rfl⟩)

/-- place is moved on -/
theorem c_take (hs : Hs W G s) (R : Rdr G x dx r ws) (hG : G.get? dx = none) (hdx : ∃ o, s.heap.get? dx = some o ∧ isR r p d o) (hw : p < ws.length) (hd : A.depth < recursionLimit)
    (k : ∀ s' t, Hs W (hid s.heap [dx]) s' → (∃ o, s'.heap.get? dx = some o ∧ isR r (p + 1) d o) → Q (.str (nw ws p) t) s') : wpAny (model pw W.w) A (call (.ref 180) [.ref x]) Q E s := by
  obtain ⟨hs', st'⟩ := mv_dx hs hG
  have R := R.mono st'
  obtain ⟨items, n, hl, hi⟩ := R.lst
  refine hideP fun PH7 hPH7 => ?_
  obtain ⟨ta, n', t, t', h1, h2⟩ := hi p _ _ (nw_at hw)
  subst hPH7
  have hp : p < 2 ^ 63 := by have := R.len; lia
  refine enterC [("self", .ref x)] (news := [(dx, isR r p d)]) hs' (fun q hq => by rw [List.mem_singleton.mp hq]; exact ⟨hdx, hid_none (.head _)⟩) (by simp) (by k_is) (by k_is) hd rfl rfl rfl rfl rfl (by decide) fun L s₁ D stk hL => ?_
  refine x_asgA ?_
  refine hideP fun PH8 hPH8 => ?_
  obtain ⟨_, hdx₁, tp, td, rfl⟩ := D.get (.head _)
  subst hPH8
  refine wpAny_BinOp ?_
  refine r_attr D lk_hd R.inst hdx₁ rf_place rfl rfl fun s₂ D₂ e₂ => ?_
  refine e_int D₂ fun s₃ t₃ D₃ => ?_
  refine P.add_int (n_loc (D₃.tok _) lk_hd ?_)
  refine r_setp (p' := p + 1) (pre := []) (post := []) (D₃.tok _) R.inst fun s₄ D₄ => ?_
  with_reducible refine x_ret ?_
  with_reducible refine Subscript_ ?_
  with_reducible refine Subscript_ ?_
  refine hideP fun PH9 hPH9 => ?_
  obtain ⟨_, hdx₄, tp₄, td₄, rfl⟩ := D₄.get (.head _)
  subst hPH9
  refine r_attr D₄ lk_hd R.inst hdx₄ rf_words rfl rfl fun s₅ D₅ e₅ => ?_
  refine wpAny_BinOp ?_
  refine hideP fun PH10 hPH10 => ?_
  obtain ⟨_, hdx₅, tp₅, td₅, rfl⟩ := D₅.get (.head _)
  subst hPH10
  refine r_attr D₅ lk_hd R.inst hdx₅ rf_place rfl rfl fun s₆ D₆ e₆ => ?_
  refine e_int D₆ fun s₇ t₇ D₇ => ?_
  refine sub_int ?_
  refine li_get (s := { s₇ with toks := s₇.toks + 1 }) ((D₇.tok _).at hl) (k := p) (by lia) hp h1 ?_
  refine e_int (D₇.tok _) fun s₈ t₈ D₈ => ?_
  refine tu_get (D₈.at h2) (by decide) (by decide) rfl rfl ?_
  exact ret_v (k _ _ D₈.hs (D₈.get (.head _)))
end
end Mine
end

section
open PySem PySem.W PyProof.Rows PySem.Calls PySem.Spec
set_option autoImplicit false
namespace Mine
noncomputable def isIt (ty : String) (v : Value) (i : Nat) (o : Obj) : Prop := o.cls = .type ty ∧ o.data = .fields #[v, .int i 0]
noncomputable def isRng (x left : Int) (o : Obj) : Prop := o.cls = .type "range_iterator" ∧ o.data = .fields #[rawInt x, rawInt left, rawInt 1]
section
variable {W : Wd} {G : Heap} {L : Addr} {m : List (Str × Value)} {news pre post : List (Addr × (Obj → Prop))} {s : Shared} {A : Around} {E : Value → Shared → Prop} {env : Env} {I l : Addr} {i : Nat} {items : Array Value} {n : Nat} {x : Value}

theorem Led.drop {d : Addr} {P : Obj → Prop} {s' : Shared} (D : Led W G L m ((d, P) :: news) s) (k : ∀ b o, b ≠ d → s.heap.get? b = some o → s'.heap.get? b = some o) (hg : s'.gens = s.gens := by rfl) (ho : s'.os = s.os := by rfl) : Led W G L m news s' := by
  have hd := D.nw (d, P) (.head _)
  obtain ⟨m₀, ⟨oL, es, ep, hL, r⟩, hm⟩ := D.ns
  have nd := D.nd
  rw [List.map_cons, List.nodup_cons] at nd
  refine ⟨D.hs.to (fun b x e => k b x (fun z => ?_) (D.hs.keep b x e)) hg ho, ⟨m₀, ⟨oL, es, ep, k L oL (Ne.symm hd.2.1) hL, r⟩, hm⟩, D.off, fun p hp => ?_, nd.2⟩
  · rw [z, hd.2.2] at e; cases e
  · obtain ⟨⟨o, e, z⟩, q⟩ := D.nw p (.tail _ hp)
    exact ⟨⟨o, k _ _ (fun y => nd.1 (by rw [← y]; exact List.mem_map_of_mem (f := (·.1)) hp)) e, z⟩, q⟩

theorem it_list {Q : Value → Shared → Prop} (D : Led W G L m news s) (hl : s.heap.get? l = some (lstOf items n)) (h : ∀ a s', Led W G L m ((a, isIt "list_iterator" (.ref l) 0) :: news) s' → s.heap.StaysIn s'.heap → Q (.ref a) s') :
    wpAny (model pw W.w) A (pyIter (.ref l)) Q E s :=
  wpAny_pyIter_list (isList_of hl) (h _ _ (D.push _ _ ⟨rfl, rfl⟩ rfl) fun _ _ e => Heap.get?_push_of_some _ e)
theorem it_self {Q : Value → Shared → Prop} (hI : ∃ o, s.heap.get? I = some o ∧ isIt "list_iterator" (.ref l) i o) (h : Q (.ref I) s) : wpAny (model pw W.w) A (pyIter (.ref I)) Q E s := by
  obtain ⟨o, e, hc, hd⟩ := hI
  exact wpAny_pyIter_listiter ⟨o, e, hc, hd⟩ h
theorem nx_list {Q : Option Value → Shared → Prop} (D : Led W G L m ((I, isIt "list_iterator" (.ref l) i) :: news) s) (hl : s.heap.get? l = some (lstOf items n)) (hx : items[i]? = some x)
    (h : ∀ s', Led W G L m ((I, isIt "list_iterator" (.ref l) (i + 1)) :: news) s' → (∀ b o, b ≠ I → s.heap.get? b = some o → s'.heap.get? b = some o) → Q (some x) s') : wpAny (model pw W.w) A (pyNext (.ref I)) Q E s := by
  obtain ⟨o, e, hc, hd⟩ := D.get (.head _)
  refine wpAny_pyNext_list_item ⟨o, e, hc, hd⟩ (isList_of hl) hx fun h' hi hs => h _ (D.chg (pre := []) (s' := { s with heap := h' }) (fun b o q n => (hs.2 b n).trans q) ?_) fun b o n q => (hs.2 b n).trans q
  obtain ⟨o', e', hc', hd'⟩ := hi
  exact ⟨o', e', hc', hd'⟩
theorem end_list {Q : Option Value → Shared → Prop} (hh : A.handled = none) (D : Led W G L m ((I, isIt "list_iterator" (.ref l) i) :: news) s) (hl : s.heap.get? l = some (lstOf items n)) (hx : items[i]? = none)
    (h : ∀ s', Led W G L m news s' → (∀ b o, b ≠ I → s.heap.get? b = some o → s'.heap.get? b = some o) → Q none s') : wpAny (model pw W.w) A (pyNext (.ref I)) Q E s := by
  obtain ⟨o, e, hc, hd⟩ := D.get (.head _)
  exact wpAny_pyNext_list_end hh ⟨o, e, hc, hd⟩ (isList_of hl) hx fun h' hs => h _ (D.drop (s' := { s with heap := h' }) fun b o n q => hs b o n q) fun b o n q => hs b o n q

/-- tuples -/
theorem isTuple_of {h : Heap} {l : Addr} {vs : List Value} (e : h.get? l = some (tupOf vs n)) : h.IsTuple l vs.toArray := ⟨_, e, rfl, n, rfl⟩
theorem it_tup {vs : List Value} {Q : Value → Shared → Prop} (D : Led W G L m news s) (hl : s.heap.get? l = some (tupOf vs n)) (h : ∀ a s', Led W G L m ((a, isIt "tuple_iterator" (.ref l) 0) :: news) s' → s.heap.StaysIn s'.heap → Q (.ref a) s') :
    wpAny (model pw W.w) A (pyIter (.ref l)) Q E s :=
  wpAny_pyIter_tuple (isTuple_of hl) (h _ _ (D.push _ _ ⟨rfl, rfl⟩ rfl) fun _ _ e => Heap.get?_push_of_some _ e)
theorem nx_tup {vs : List Value} {Q : Option Value → Shared → Prop} (D : Led W G L m ((I, isIt "tuple_iterator" (.ref l) i) :: news) s) (hl : s.heap.get? l = some (tupOf vs n)) (hx : vs[i]? = some x)
    (h : ∀ s', Led W G L m ((I, isIt "tuple_iterator" (.ref l) (i + 1)) :: news) s' → (∀ b o, b ≠ I → s.heap.get? b = some o → s'.heap.get? b = some o) → Q (some x) s') : wpAny (model pw W.w) A (pyNext (.ref I)) Q E s := by
  obtain ⟨o, e, hc, hd⟩ := D.get (.head _)
  refine wpAny_pyNext_tuple_item ⟨o, e, hc, hd⟩ (isTuple_of hl) (by simpa using hx) fun h' hi hs => h _ (D.chg (pre := []) (s' := { s with heap := h' }) (fun b o q n => (hs.2 b n).trans q) ?_) fun b o n q => (hs.2 b n).trans q
  obtain ⟨o', e', hc', hd'⟩ := hi
  exact ⟨o', e', hc', hd'⟩
theorem end_tup {vs : List Value} {Q : Option Value → Shared → Prop} (hh : A.handled = none) (D : Led W G L m ((I, isIt "tuple_iterator" (.ref l) i) :: news) s) (hl : s.heap.get? l = some (tupOf vs n)) (hx : vs[i]? = none)
    (h : ∀ s', Led W G L m news s' → (∀ b o, b ≠ I → s.heap.get? b = some o → s'.heap.get? b = some o) → Q none s') : wpAny (model pw W.w) A (pyNext (.ref I)) Q E s := by
  obtain ⟨o, e, hc, hd⟩ := D.get (.head _)
  exact wpAny_pyNext_tuple_end hh ⟨o, e, hc, hd⟩ (isTuple_of hl) (by simpa using hx) fun h' hs => h _ (D.drop (s' := { s with heap := h' }) fun b o n q => hs b o n q) fun b o n q => hs b o n q

/-- strings -/
theorem it_str {y : Str} {t : Tok} {Q : Value → Shared → Prop} (D : Led W G L m news s) (ha : y.cps.all (· < 128) = true) (h : ∀ a s', Led W G L m ((a, isIt "str_ascii_iterator" (.str y t) 0) :: news) s' → s.heap.StaysIn s'.heap → Q (.ref a) s') :
    wpAny (model pw W.w) A (pyIter (.str y t)) Q E s :=
  wpAny_pyIter_ascii ha (h _ _ (D.push _ _ ⟨rfl, rfl⟩ rfl) fun _ _ e => Heap.get?_push_of_some _ e)
theorem it_selfs {y : Str} {t : Tok} {Q : Value → Shared → Prop} (hI : ∃ o, s.heap.get? I = some o ∧ isIt "str_ascii_iterator" (.str y t) i o) (h : Q (.ref I) s) : wpAny (model pw W.w) A (pyIter (.ref I)) Q E s := by
  obtain ⟨o, e, hc, hd⟩ := hI
  exact wpAny_pyIter_striter_ascii ⟨o, e, hc, hd⟩ h
theorem nx_str {y : Str} {t : Tok} {c : Nat} {Q : Option Value → Shared → Prop} (D : Led W G L m ((I, isIt "str_ascii_iterator" (.str y t) i) :: news) s) (hx : y.cps[i]? = some c)
    (h : ∀ s' t', Led W G L m ((I, isIt "str_ascii_iterator" (.str y t) (i + 1)) :: news) s' → Q (some (.str ⟨#[c]⟩ t')) s') : wpAny (model pw W.w) A (pyNext (.ref I)) Q E s := by
  obtain ⟨o, e, hc, hd⟩ := D.get (.head _)
  refine wpAny_pyNext_ascii_item ⟨o, e, hc, hd⟩ hx fun h' hi hs => h _ _ (Led.tok (s := { s with heap := h' }) (D.chg (pre := []) (s' := { s with heap := h' }) (fun b o q n => (hs.2 b n).trans q) ?_) _)
  obtain ⟨o', e', hc', hd'⟩ := hi
  exact ⟨o', e', hc', hd'⟩
theorem end_str {y : Str} {t : Tok} {Q : Option Value → Shared → Prop} (hh : A.handled = none) (D : Led W G L m ((I, isIt "str_ascii_iterator" (.str y t) i) :: news) s) (hx : y.cps[i]? = none)
    (h : ∀ s', Led W G L m news s' → Q none s') : wpAny (model pw W.w) A (pyNext (.ref I)) Q E s := by
  obtain ⟨o, e, hc, hd⟩ := D.get (.head _)
  exact wpAny_pyNext_ascii_end hh ⟨o, e, hc, hd⟩ hx fun h' hs => h _ (D.drop (s' := { s with heap := h' }) fun b o n q => hs b o n q)
end

section loops
variable {W : Wd} {G : Heap} {L : Addr} {m : List (Str × Value)} {news pre post : List (Addr × (Obj → Prop))} {s : Shared} {A : Around} {E : Value → Shared → Prop} {env : Env}
theorem x_for {target iter : Expr} {body rest : List Stmt} {pos : Pos} {Q : Flow → Shared → Prop}
    (h : wpAny (model pw W.w) A (eval iter env) (fun xv s₁ => wpAny (model pw W.w) A (pyIter xv) (fun it s₂ => ∃ (I : Nat → Shared → Prop) (n : Nat), I 0 s₂ ∧
      (∀ s, I n s → wpAny (model pw W.w) A (pyNext it) (fun r s' => r = none ∧ wpAny (model pw W.w) A (execs rest env) Q E s') (TurnE W A env E) s) ∧
      (∀ i s, i < n → I i s → wpAny (model pw W.w) A (pyNext it) (fun r s' => ∃ v, r = some v ∧ wpAny (model pw W.w) A (letOwnedTupleGo target it v) (fun _ s₁' => wpAny (model pw W.w) A (assign target env v) (fun _ s'' => wpAny (model pw W.w) A (execs body env) (fun f s₃ => match f with
        | .next | .cont => I (i + 1) s₃
        | .brk => wpAny (model pw W.w) A (execs rest env) Q E s₃
        | .ret v => Q (.ret v) s₃) (TurnE W A env E) s'') (TurnE W A env E) s₁') (TurnE W A env E) s') (TurnE W A env E) s)) E s₁) E s)
    (hs : ∀ x, foldedSetIterable iter env x = pure x := by intro _; rfl) :
    wpAny (model pw W.w) A (execs (.For target iter body [] pos :: rest) env) Q E s := by
  refine wpAny_execs_cons (wpAny_For (wpAny_mono h (fun xv s₁ h₁ => wpAny_mono h₁ (fun it s₂ h₂ => ?_) fun _ _ z => z) fun _ _ z => z) hs)
  refine hideP fun PH1 hPH1 => ?_
  obtain ⟨I, n, h0, stop, turn⟩ := h₂
  subst hPH1
  refine codeAny_forLoop_any (fun k s => ∃ i, k = n - i ∧ i ≤ n ∧ I i s) (fun k s hI => ?_) n ⟨0, by lia, by lia, h0⟩
  obtain ⟨i, rfl, hi, hI⟩ := hI
  by_cases hn : i = n
  · subst hn
    refine wpAny_mono (stop s hI) (fun r s' hr => ?_) fun _ _ z => z
    obtain ⟨rfl, hr⟩ := hr
    exact wpAny_execs_nil hr
  · refine wpAny_mono (turn i s (by lia) hI) (fun r s' hr => ?_) fun _ _ z => z
    obtain ⟨v, rfl, hr⟩ := hr
    refine wpAny_mono hr (fun _ s₃ h₃ => wpAny_mono h₃ (fun _ s₄ h₄ => wpAny_mono h₄ (fun f s₅ h₅ => ?_) fun _ _ z => z) fun _ _ z => z) fun _ _ z => z
    cases f with
    | next => exact ⟨n - (i + 1), by lia, i + 1, rfl, by lia, h₅⟩
    | cont => exact ⟨n - (i + 1), by lia, i + 1, rfl, by lia, h₅⟩
    | brk => exact h₅
    | ret v => exact h₅

noncomputable abbrev cEnv (scope : Scope) (C : Addr) (env : Env) : Env := { scope := scope, locals := C, globals := env.globals, cells := [], qual := env.qual, func := none, code := env.code, frame := env.frame, builtins := env.builtins }

theorem c_loop {elt target iter : Expr} {ifs : List Expr} {scope : Scope} {pos : Pos} {it acc : Value} {R : Result → Shared → Prop} (J : Nat → Shared → Prop) (n : Nat) (h0 : J 0 s)
    (stop : ∀ s, J n s → wpAny (model pw W.w) A (pyNext it) (fun r s₁ => r = none ∧ R (.ok .next) s₁) (notedBy (model pw W.w) A env fun e s' => R (.error e) s') s)
    (turn : ∀ i s, i < n → J i s → wpAny (model pw W.w) A (pyNext it) (fun r s₁ => ∃ v, r = some v ∧ wpAny (model pw W.w) A (assign target env v) (fun _ s₂ =>
      wpAny (model pw W.w) A (forIn ifs true fun c r => if r = true then do let ok ← isTrue c env (eval c env); pure (ForInStep.yield ok) else pure (ForInStep.yield r)) (fun ok s₃ =>
        if ok = true then wpAny (model pw W.w) A (eval elt env) (fun x s₄ => wpAny (model pw W.w) A (call (.builtin "list.append") [acc, x]) (fun _ s₅ => J (i + 1) s₅) (notedBy (model pw W.w) A env fun e s' => R (.error e) s') s₄) (notedBy (model pw W.w) A env fun e s' => R (.error e) s') s₃
        else J (i + 1) s₃) (notedBy (model pw W.w) A env fun e s' => R (.error e) s') s₂) (notedBy (model pw W.w) A env fun e s' => R (.error e) s') s₁) (notedBy (model pw W.w) A env fun e s' => R (.error e) s') s)
    (ht : ∀ v, letOwnedTupleGo target it v = pure () := by intro _; rfl) :
    codeAny (model pw W.w) A (.compLoop (.ListComp elt [⟨target, iter, ifs, 0⟩] scope pos) 0 it acc env) R s := by
  refine codeAny_compLoop_tests (fun k s => ∃ i, k = n - i ∧ i ≤ n ∧ J i s) (fun k s hI => ?_) n ⟨0, by lia, by lia, h0⟩ ht
  obtain ⟨i, rfl, hi, hI⟩ := hI
  by_cases hn : i = n
  · subst hn
    refine wpAny_mono (stop s hI) (fun r s' hr => ?_) fun _ _ z => z
    obtain ⟨rfl, hr⟩ := hr
    exact hr
  · refine wpAny_mono (turn i s (by lia) hI) (fun r s' hr => ?_) fun _ _ z => z
    obtain ⟨v, rfl, hr⟩ := hr
    refine wpAny_mono hr (fun _ s₃ h₃ => wpAny_mono h₃ (fun ok s₄ h₄ => ?_) fun _ _ z => z) fun _ _ z => z
    cases ok with
    | true =>
      simp only [if_true] at h₄ ⊢
      exact wpAny_mono h₄ (fun _ s₅ h₅ => wpAny_mono h₅ (fun _ s₆ h₆ => ⟨n - (i + 1), by lia, i + 1, rfl, by lia, h₆⟩) fun _ _ z => z) fun _ _ z => z
    | false =>
      simp only [Bool.false_eq_true, if_false] at h₄ ⊢
      exact ⟨n - (i + 1), by lia, i + 1, rfl, by lia, h₄⟩

end loops
section
variable {W : Wd} {s : Shared} {A : Around} {E : Value → Shared → Prop} {env : Env}
/-- a list comprehension with no name of the outer scope -/
theorem e_compG {elt target iter : Expr} {ifs : List Expr} {scope : Scope} {pos : Pos} {Q : Value → Shared → Prop}
    (h : wpAny (model pw W.w) A (eval iter env) (fun xv s₁ => wpAny (model pw W.w) A (pyIter xv) (fun it s₂ => ∃ (G : Heap) (L : Addr) (m : List (Str × Value)) (news : List (Addr × (Obj → Prop))) (I : Addr) (P₀ : Obj → Prop), it = .ref I ∧ Led W G L m ((I, P₀) :: news) s₂ ∧
      (∀ (A' : Around) (s' : Shared) (Q' : Value → Shared → Prop) (E' : Value → Shared → Prop), (∃ o, s'.heap.get? I = some o ∧ P₀ o) → Q' (.ref I) s' → wpAny (model pw W.w) A' (pyIter (.ref I)) Q' E' s') ∧
      ∀ acc C oL s₄, s₂.heap.StaysIn s₄.heap → s₂.heap.get? acc = none → Led W G C [] ((I, P₀) :: (acc, isL #[]) :: (L, (· = oL)) :: news) s₄ → 
        codeAny (model pw W.w) A (.compLoop (.ListComp elt [⟨target, iter, ifs, 0⟩] scope pos) 0 (.ref I) (.ref acc) (cEnv scope C env)) (fun r s' => r = .ok .next ∧ ∃ vals mC, Led W G C mC ((acc, isL vals) :: (L, (· = oL)) :: news) s' ∧
          ∀ s'', (∀ b o, b ≠ C → s'.heap.get? b = some o → s''.heap.get? b = some o) → Led W G L m ((acc, isL vals) :: news) s'' → Q (.ref acc) s'') s₄) E s₁) E s)
    (hfree : ∀ x ∈ scope.names, x.2 ≠ .free := by decide) (hcell : ∀ x ∈ scope.names, x.2 ≠ .cell := by decide) (hkind : scope.kind = .function := by rfl) (hnames : ∀ x ∈ scope.names, x.2 = .local → scope.names.lookup x.1 = some .local := by decide)
    (hs : ∀ x, foldedSetIterable iter env x = pure x := by intro _; rfl) :
    wpAny (model pw W.w) A (eval (.ListComp elt [⟨target, iter, ifs, 0⟩] scope pos) env) Q E s := by
  refine wpAny_ListComp hfree hkind hnames (wpAny_mono h (fun xv s₁ h₁ => wpAny_mono h₁ (fun it s₂ h₂ => ?_) fun _ _ z => z) fun _ _ z => z) hs
  refine hideP fun PH2 hPH2 => ?_
  obtain ⟨G, L, m, news, I, P₀, rfl, D, hself, body⟩ := h₂
  subst hPH2
  refine wpAny_newList ?_ (by size_fits)
  have D₃ := D.push { cls := .type "list", data := .seq #[] 0 } (isL #[]) ⟨0, rfl⟩ rfl
  obtain ⟨m₀, hn₀, hm₀⟩ := D₃.ns
  refine wpAny_newFunctionEnv hcell (fun _ h => nomatch h) (fun h' hns hsb => ?_) hkind
  refine hideP fun PH3 hPH3 => ?_
  obtain ⟨oL, es, ep, hL, r⟩ := hn₀
  subst hPH3
  have hCL : s₂.heap.objs.size + 1 ≠ L := fun z => by
    have := Heap.lt_size hL
    rw [Heap.size_push, ← z] at this
    exact Nat.lt_irrefl _ this
  have hsz : (s₂.heap.push { cls := .type "list", data := .seq #[] 0 }).objs.size = s₂.heap.objs.size + 1 := Heap.size_push _ _
  have k₄ : ∀ b o, (s₂.heap.push { cls := .type "list", data := .seq #[] 0 }).get? b = some o → h'.get? b = some o := fun b o e =>
    (hsb.2 b (Nat.ne_of_lt (Heap.lt_size e))).trans (Heap.get?_push_of_some _ e)
  have D₄ : Led W G L m ((s₂.heap.objs.size, isL #[]) :: (I, P₀) :: news) { s₂ with heap := h' } := D₃.kept (s' := { s₂ with heap := h' }) k₄
  have hG : G.get? (s₂.heap.objs.size + 1) = none := by
    cases q : G.get? (s₂.heap.objs.size + 1) with
    | none => rfl
    | some o => exact absurd (Nat.lt_of_succ_lt (Heap.lt_size (D.hs.keep _ _ q))) (Nat.lt_irrefl _)
  have nd := D₄.nd
  simp only [List.map_cons, List.nodup_cons, List.mem_cons] at nd
  have hC : ∀ p ∈ ((s₂.heap.objs.size, isL #[]) :: (I, P₀) :: news), p.1 ≠ s₂.heap.objs.size + 1 := fun p hp z => by
    obtain ⟨⟨o, e, _⟩, _⟩ := D₃.nw p hp
    have := Heap.lt_size e
    rw [Heap.size_push, z] at this
    exact Nat.lt_irrefl _ this
  have D₅ : Led W G (s₂.heap.objs.size + 1) [] ((I, P₀) :: (s₂.heap.objs.size, isL #[]) :: (L, (· = oL)) :: news) { s₂ with heap := h' } := by
    refine ⟨D₄.hs, ⟨_, by rw [← hsz]; exact hns, fun y v e => by cases e⟩, hG, fun p hp => ?_, ?_⟩
    · rcases List.mem_cons.mp hp with rfl | hp
      · exact ⟨(D₄.nw _ (.tail _ (.head _))).1, hC _ (.tail _ (.head _)), (D₄.nw _ (.tail _ (.head _))).2.2⟩
      rcases List.mem_cons.mp hp with rfl | hp
      · exact ⟨(D₄.nw _ (.head _)).1, hC _ (.head _), (D₄.nw _ (.head _)).2.2⟩
      rcases List.mem_cons.mp hp with rfl | hp
      · exact ⟨⟨oL, k₄ _ _ hL, rfl⟩, Ne.symm hCL, D.off⟩
      · exact ⟨(D₄.nw _ (.tail _ (.tail _ hp))).1, hC _ (.tail _ (.tail _ hp)), (D₄.nw _ (.tail _ (.tail _ hp))).2.2⟩
    · simp only [List.map_cons, List.nodup_cons, List.mem_cons]
      refine ⟨?_, ?_, ?_, nd.2.2⟩
      · rintro (z | z | z)
        · exact nd.1 (.inl z.symm)
        · exact (D.nw _ (.head _)).2.1 z
        · exact nd.2.1 z
      · rintro (z | z)
        · exact (D₄.nw _ (.head _)).2.1 z
        · exact nd.1 (.inr z)
      · intro z
        obtain ⟨p, hp, e⟩ := List.mem_map.mp z
        exact (D.nw p (.tail _ hp)).2.1 e
  have fin : ∀ (s' : Shared), (∃ vals mC, Led W G (s₂.heap.objs.size + 1) mC ((s₂.heap.objs.size, isL vals) :: (L, (· = oL)) :: news) s' ∧
      ∀ s'', (∀ b o, b ≠ s₂.heap.objs.size + 1 → s'.heap.get? b = some o → s''.heap.get? b = some o) → Led W G L m ((s₂.heap.objs.size, isL vals) :: news) s'' → Q (.ref s₂.heap.objs.size) s'') →
      ∃ m, s'.heap.Ns (s₂.heap.objs.size + 1) m ∧ ∀ h', Heap.SameBut (s₂.heap.objs.size + 1) s'.heap h' → Q (.ref s₂.heap.objs.size) { s' with heap := h' } := by
    intro s' hr
    obtain ⟨vals, mC, D₆, hq⟩ := hr
    obtain ⟨m₆, hn₆, _⟩ := D₆.ns
    refine ⟨m₆, hn₆, fun h'' hs'' => hq { s' with heap := h'' } (fun b o n e => (hs''.2 b n).trans e) ?_⟩
    have k₇ : ∀ p ∈ (s₂.heap.objs.size, isL vals) :: (L, (· = oL)) :: news, ∀ o, s'.heap.get? p.1 = some o → h''.get? p.1 = some o := fun p hp o e => (hs''.2 _ (D₆.nw p hp).2.1).trans e
    have nd₆ := D₆.nd
    simp only [List.map_cons, List.nodup_cons, List.mem_cons] at nd₆
    refine ⟨D₆.hs.to fun b o e => (hs''.2 b fun z => ?_).trans (D₆.hs.keep b o e), ⟨m₀, ?_, hm₀⟩, D.off, fun p hp => ?_, ?_⟩
    · have z : b = s₂.heap.objs.size + 1 := z
      rw [z, hG] at e; cases e
    · obtain ⟨o', eL, ho'⟩ := D₆.get (p := (L, (· = oL))) (.tail _ (.head _))
      have ho' : o' = oL := ho'
      rw [ho'] at eL
      exact ⟨oL, es, ep, k₇ _ (.tail _ (.head _)) _ eL, r⟩
    · rcases List.mem_cons.mp hp with rfl | hp
      · obtain ⟨⟨o, e, q⟩, _, g⟩ := D₆.nw _ (.head _)
        exact ⟨⟨o, k₇ _ (.head _) _ e, q⟩, fun z => nd₆.1 (.inl z), g⟩
      · obtain ⟨⟨o, e, q⟩, _, g⟩ := D₆.nw p (.tail _ (.tail _ hp))
        exact ⟨⟨o, k₇ _ (.tail _ (.tail _ hp)) _ e, q⟩, fun z => nd₆.2.1 (by rw [← z]; exact List.mem_map_of_mem (f := (·.1)) hp), g⟩
    · simp only [List.map_cons, List.nodup_cons]
      exact ⟨fun z => nd₆.1 (.inr z), nd₆.2.2⟩
  refine codeAny_compStart_list ?_ ?_
  · rw [hsz]
    refine codeAny_mono (body _ _ oL _ (fun b o e => k₄ b o (Heap.get?_push_of_some _ e)) (Heap.get?_none_of_le (Nat.le_refl _)) D₅) fun r s' hr => ?_
    obtain ⟨rfl, hr⟩ := hr
    exact fin s' hr
  · refine hself _ _ _ _ (D₅.get (.head _)) ?_
    rw [hsz]
    refine codeAny_mono (body _ _ oL _ (fun b o e => k₄ b o (Heap.get?_push_of_some _ e)) (Heap.get?_none_of_le (Nat.le_refl _)) D₅) fun r s' hr => ?_
    obtain ⟨rfl, hr⟩ := hr
    exact fin s' hr
end
end Mine
end

section
open PySem PySem.W PyProof.Rows PySem.Calls PySem.Spec
set_option autoImplicit false
namespace Mine
/-- a name for a value, kept apart from it -/
theorem gen {α : Sort _} {p : Prop} (a : α) (h : ∀ x, a = x → p) : p := h a rfl
section hide
variable {W : Wd} {A : Around} {env : Env}
theorem hide {α : Type} {c : Sem α} {Q : α → Shared → Prop} {E : Value → Shared → Prop} {s : Shared} (h : ∀ Q' E', Q' = Q → E' = E → wpAny (model pw W.w) A c Q' E' s) : wpAny (model pw W.w) A c Q E s := h Q E rfl rfl
theorem ret_vH {Q : Value → Shared → Prop} {Q' : Flow → Shared → Prop} {v : Value} {s : Shared} (hQ : Q' = RetQ Q) (h : Q v s) : Q' (.ret v) s := by subst hQ; exact h
theorem hideC {c : Code} {R : Result → Shared → Prop} {s : Shared} (h : ∀ R', R' = R → codeAny (model pw W.w) A c R' s) : codeAny (model pw W.w) A c R s := h R rfl
noncomputable abbrev ForB (W : Wd) (A : Around) (rest : List Stmt) (env : Env) (Q : Flow → Shared → Prop) (E : Value → Shared → Prop) (I : Nat → Shared → Prop) (i : Nat) (f : Flow) (s : Shared) : Prop := match f with
  | .next | .cont => I (i + 1) s
  | .brk => wpAny (model pw W.w) A (execs rest env) Q E s
  | .ret v => Q (.ret v) s
theorem x_forH {target iter : Expr} {body rest : List Stmt} {pos : Pos} {Q : Flow → Shared → Prop} {E : Value → Shared → Prop} {s : Shared}
    (h : ∀ Q' E', Q' = Q → E' = E → wpAny (model pw W.w) A (eval iter env) (fun xv s₁ => wpAny (model pw W.w) A (pyIter xv) (fun it s₂ => ∃ (I : Nat → Shared → Prop) (n : Nat), I 0 s₂ ∧
      (∀ s, I n s → wpAny (model pw W.w) A (pyNext it) (fun r s' => r = none ∧ wpAny (model pw W.w) A (execs rest env) Q' E' s') (TurnE W A env E') s) ∧
      (∀ (B : Nat → Flow → Shared → Prop) (T : Value → Shared → Prop), B = ForB W A rest env Q' E' I → T = TurnE W A env E' → ∀ i s, i < n → I i s → wpAny (model pw W.w) A (pyNext it) (fun r s' => ∃ v, r = some v ∧ wpAny (model pw W.w) A (letOwnedTupleGo target it v) (fun _ s₁' => wpAny (model pw W.w) A (assign target env v) (fun _ s'' => wpAny (model pw W.w) A (execs body env) (B i) T s'') T s₁') T s') T s)) E' s₁) E' s)
    (hs : ∀ x, foldedSetIterable iter env x = pure x := by intro _; rfl) :
    wpAny (model pw W.w) A (execs (.For target iter body [] pos :: rest) env) Q E s := by
  refine x_for (wpAny_mono (h Q E rfl rfl) (fun xv s₁ h₁ => wpAny_mono h₁ (fun it s₂ h₂ => ?_) fun _ _ z => z) fun _ _ z => z) hs
  obtain ⟨I, n, h0, stop, turn⟩ := h₂
  exact ⟨I, n, h0, stop, turn _ _ rfl rfl⟩
noncomputable abbrev WhB (W : Wd) (A : Around) (rest : List Stmt) (env : Env) (Q : Flow → Shared → Prop) (E : Value → Shared → Prop) (I : Nat → Shared → Prop) (n : Nat) (f : Flow) (s : Shared) : Prop := match f with
  | .next | .cont => ∃ k, k < n ∧ I k s
  | .brk => wpAny (model pw W.w) A (execs rest env) Q E s
  | .ret v => Q (.ret v) s
theorem x_whileH {test : Expr} {body rest : List Stmt} {pos : Pos} {Q : Flow → Shared → Prop} {E : Value → Shared → Prop} {s : Shared} (I : Nat → Shared → Prop) (n : Nat) (h0 : I n s)
    (turn : ∀ (Q' : Flow → Shared → Prop) (E' : Value → Shared → Prop) (B : Nat → Flow → Shared → Prop) (T : Value → Shared → Prop), Q' = Q → E' = E → B = WhB W A rest env Q' E' I → T = TurnE W A env E' → ∀ n s, I n s → wpAny (model pw W.w) A (isTrue test env (eval test env)) (fun b s₂ => if b = true then wpAny (model pw W.w) A (execs body env) (B n) T s₂ else wpAny (model pw W.w) A (execs rest env) Q' E' s₂) T s) :
    wpAny (model pw W.w) A (execs (.While test body [] pos :: rest) env) Q E s := x_while I n h0 (turn Q E _ _ rfl rfl rfl rfl)
theorem c_loopH {elt target iter : Expr} {ifs : List Expr} {scope : Scope} {pos : Pos} {it acc : Value} {R : Result → Shared → Prop} {s : Shared} (J : Nat → Shared → Prop) (n : Nat) (h0 : J 0 s)
    (stop : ∀ R' N, R' = R → N = notedBy (model pw W.w) A env (fun e s' => R' (.error e) s') → ∀ s, J n s → wpAny (model pw W.w) A (pyNext it) (fun r s₁ => r = none ∧ R' (.ok .next) s₁) N s)
    (turn : ∀ (B : Nat → Shared → Prop) (N : Value → Shared → Prop), B = (fun i => J (i + 1)) → N = notedBy (model pw W.w) A env (fun e s' => R (.error e) s') → ∀ i s, i < n → J i s → wpAny (model pw W.w) A (pyNext it) (fun r s₁ => ∃ v, r = some v ∧ wpAny (model pw W.w) A (assign target env v) (fun _ s₂ =>
      wpAny (model pw W.w) A (forIn ifs true fun c r => if r = true then do let ok ← isTrue c env (eval c env); pure (ForInStep.yield ok) else pure (ForInStep.yield r)) (fun ok s₃ =>
        if ok = true then wpAny (model pw W.w) A (eval elt env) (fun x s₄ => wpAny (model pw W.w) A (call (.builtin "list.append") [acc, x]) (fun _ s₅ => B i s₅) N s₄) N s₃
        else B i s₃) N s₂) N s₁) N s)
    (ht : ∀ v, letOwnedTupleGo target it v = pure () := by intro _; rfl) :
    codeAny (model pw W.w) A (.compLoop (.ListComp elt [⟨target, iter, ifs, 0⟩] scope pos) 0 it acc env) R s :=
  c_loop J n h0 (stop R _ rfl rfl) (turn _ _ rfl rfl) ht
end hide
end Mine
end

section
open PySem PySem.W PyProof.Rows PySem.Calls PySem.Spec
set_option autoImplicit false
namespace Mine
theorem warmrc (w : World) (h : Heap) : (hd.heap_39 w.params).In h → PySem.Challenge.rw_rh0003_01.prog = PySem.Challenge.rw_rh0003_01.prog := by
  k_fill
  intro _
  rfl
section
variable {W : Wd} {G : Heap} {L : Addr} {m : List (Str × Value)} {news pre post : List (Addr × (Obj → Prop))} {s : Shared} {A : Around} {E : Value → Shared → Prop} {env : Env} {x : Str} {v : Value} {pos : Pos}
theorem s_locE {Q : Unit → Shared → Prop} (D : Led W G L m news s) (h : ∀ s', Led W G L ((x, v) :: m) news s' → Q () s') (hL : env.locals = L := by rfl)
    (hk : env.scope.kind = .function := by rfl) (hl : env.kindOf x = some .local := by rfl) : wpAny (model pw W.w) A (storeName env x v) Q E s := by
  obtain ⟨m₀, hn, hm⟩ := D.ns
  subst hL
  refine wpAny_storeName_local hl hn (fun h' hn' hs => h _ ⟨D.hs.to fun b o e => (hs.2 b fun z => ?_).trans (D.hs.keep b o e), ⟨_, hn', fun y u e => ?_⟩, D.off, fun p hp => ?_, D.nd⟩)
    (by rw [hk]; rfl)
  · have z : b = env.locals := z
    rw [z, D.off] at e; cases e
  · unfold lk at e
    split at e
    · rename_i hy; rw [if_pos hy]; exact e
    · rename_i hy; rw [if_neg hy]; exact hm y u e
  · obtain ⟨⟨o, e, z⟩, r⟩ := D.nw p hp
    exact ⟨⟨o, (hs.2 p.1 r.1).trans e, z⟩, r⟩
theorem a_locE {px : Pos} {Q : Unit → Shared → Prop} (D : Led W G L m news s) (h : ∀ s', Led W G L ((x, v) :: m) news s' → Q () s') (hL : env.locals = L := by rfl)
    (hk : env.scope.kind = .function := by rfl) (hl : env.kindOf x = some .local := by rfl) : wpAny (model pw W.w) A (assign (.Name x px) env v) Q E s :=
  wpAny_assign_Name (s_locE D h hL hk hl)
theorem nmE {px : Pos} {Q : Value → Shared → Prop} (D : Led W G L m news s) (hv : lk m x = some v) (h : Q v s) (hL : env.locals = L := by rfl)
    (hk : env.scope.kind = .function := by rfl) (hl : env.kindOf x = some .local := by rfl) (hd : (x == ("__debug__" : Str)) = false := by decide) : wpAny (model pw W.w) A (eval (.Name x px) env) Q E s :=
  wpAny_Name (n_locE D hv h hL hk hl) hd

noncomputable def sepC (c : Nat) : Bool := Txt.isspace ⟨#[c]⟩ || Txt.contains "()[]{},:" ⟨#[c]⟩
noncomputable def opOk (x : Str) : Bool := x != "" && x.cps.toList.all fun c => !sepC c
theorem kb {f : Value} {pos : Pos} {first : List Value} {Q : Value → Shared → Prop} (hf : ∃ id, f = .builtin id) (h : wpAny (model pw W.w) A (call f (first ++ [])) Q E s) : wpAny (model pw W.w) A (callWith pos f first (backTo pos (starEach [] env)) []) Q E s := by
  obtain ⟨id, rfl⟩ := hf
  exact callWith_of (P := fun _ => True) rfl (fun h _ => ⟨.machine, .inr (.inl rfl), .now⟩) (evalArgs_nil3 ⟨trivial, h⟩)

theorem it_call {e : Expr} {args : List Expr} {whole : Sem Value} {Q : Bool → Shared → Prop} (h : wpAny (model pw W.w) A whole (fun v s' => wpAny (model pw W.w) A (truthy v) Q E s') E s) : wpAny (model pw W.w) A (isTrue (.Call e args [] pos) env whole) Q E s :=
  wpAny_bind (wpAny_mono h (fun v s' h' => wpAny_bind (wpAny_standAt (wpAny_holding h'))) fun _ _ z => z)
theorem filt_take {c : Nat} {i : Nat} {l : List Nat} (h : l[i]? = some c) : ((l.take (i + 1)).filter sepC).length = ((l.take i).filter sepC).length + if sepC c then 1 else 0 := by
  rw [List.take_add_one, h, List.filter_append, List.length_append]
  cases hc : sepC c <;> simp [List.filter, hc]

theorem c_isop {t : Tok} {n : Nat} {fs : List Env} {Q : Value → Shared → Prop} (hs : Hs W G s) (c : Cx A fs (n + 1)) (ha : x.cps.all (· < 128) = true) (hz : x.cps.size ≤ 100000)
    (k : ∀ s', Hs W s.heap s' → Q (.bool (opOk x)) s') : wpAny (model pw W.w) A (call (.ref 95) [.str x t]) Q E s := by
  refine enterC [("text", .str x t)] (news := []) hs.all (fun _ h => nomatch h) List.nodup_nil (by k_is) (by k_is) c.room rfl rfl rfl rfl rfl (by decide) fun L s₁ D st hL => ?_
  with_reducible refine x_ret ?_
  with_reducible refine BoolOp_and ?_
  refine wpAny_Compare1 (n_loc D lk_hd (e_str D fun s₂ t₂ D₂ => ne_str (wpAny_truthy_bool ?_)))
  by_cases hx : x = ""
  · subst hx
    exact ret_v (k _ D₂.hs)
  have hx' : (x != Str.ofString "") = true := by simpa using hx
  rw [hx', if_pos rfl]
  with_reducible refine BoolOp_one ?_
  refine wpAny_Compare1 ?_
  refine e_compG (n_loc D₂ lk_hd (it_str D₂ ha fun I s₃ D₃ k₃ => ?_))
  refine ⟨s.heap, L, [("text", .str x t)], [], I, _, rfl, D₃, fun A' s' Q' E' hI h => it_selfs hI h, fun acc C oL s₄ k₄ _ D₄ => ?_⟩
  have hA : ∀ env, (A.deeper env).handled = none := fun _ => c.hd
  refine c_loop (fun i s' => ∃ (vals : Array Value) (mC : List (Str × Value)), vals.size = ((x.cps.toList.take i).filter sepC).length ∧ Led W s.heap C mC ((I, isIt "str_ascii_iterator" (.str x t) i) :: (acc, isL vals) :: (L, (· = oL)) :: []) s') x.cps.size ?_ ?_ ?_
  · exact ⟨#[], [], by simp, D₄⟩
  · rintro s₅ ⟨vals, mC, hv, D₅⟩
    refine end_str (hA _) D₅ (by simp) fun s₆ D₆ => ⟨rfl, rfl, vals, mC, D₆, fun s₇ k₇ D₇ => ?_⟩
    refine List_ (spliced_none (l_new D₇ (by size_fits) fun e s₈ D₈ => ?_))
    have hsz : vals.size = (x.cps.toList.filter sepC).length := by rw [hv, List.take_of_length_le (by simp)]
    have h1 := isList_isL (D₈.get (.head _))
    have h2 := isList_isL (D₈.get (.tail _ (.head _)))
    have hu : (A.deeper (envOf (Str.ofString "is_op") { kind := ScopeKind.function, names := [(Str.ofString "text", NameKind.local)], isGenerator := false, isCoroutine := false } L 95 (.ref 94))).units < cLine := by
      have := c.un; show A.units + 3 < 9900; lia
    have hok : opOk x = (vals.size == 0) := by
      unfold opOk
      rw [hx', Bool.true_and, hsz]
      by_cases z : (x.cps.toList.filter sepC).length = 0
      · rw [z]
        have := List.filter_eq_nil_iff.mp (List.eq_nil_of_length_eq_zero z)
        show _ = true
        rw [List.all_eq_true]
        intro a ha
        simpa using this a ha
      · rw [show ((x.cps.toList.filter sepC).length == 0) = false from by simpa using z]
        rw [Bool.eq_false_iff]
        intro q
        refine z ?_
        rw [List.length_eq_zero_iff, List.filter_eq_nil_iff]
        rw [List.all_eq_true] at q
        intro a ha
        simpa using q a ha
    by_cases hz0 : vals.size = 0
    · refine SeqAt.eq_listAt (e := fun _ => true) h2 h1 hz0 hu (fun j h1 _ => absurd h1 (by lia)) ?_
      refine ret_v ?_
      have e : (List.all (List.range vals.size) fun _ => true) = opOk x := by rw [hok, hz0]; rfl
      rw [e]
      exact k _ D₈.hs
    · refine SeqAt.eq_list_lengthsAt h2 h1 (by simpa using hz0) hu ?_
      refine ret_v ?_
      have e : false = opOk x := by rw [hok]; simp [hz0]
      rw [e]
      exact k _ D₈.hs
  · rintro i s₅ hi ⟨vals, mC, hv, D₅⟩
    obtain ⟨ch, hch⟩ : ∃ ch, x.cps[i]? = some ch := ⟨_, Array.getElem?_eq_getElem hi⟩
    refine nx_str D₅ hch fun s₆ t₆ D₆ => ⟨_, rfl, a_locE D₆ fun s₇ D₇ => ?_⟩
    refine wpAny_tests_one (isTrue_or ?_)
    refine it_call (MethodCall_ (nmE D₇ lk_hd (PySem.GM.isspace (kb ⟨_, rfl⟩ (PySem.SC.isspace (wpAny_truthy_bool ?_))))))
    have app : sepC ch = true → ∀ s₈, Led W s.heap C (("sign", Value.str { cps := #[ch] } t₆) :: mC) [(I, isIt "str_ascii_iterator" (.str x t) (i + 1)), (acc, isL vals), (L, fun x => x = oL)] s₈ →
        ∀ s₉, Led W s.heap C (("sign", Value.str { cps := #[ch] } t₆) :: mC) [(I, isIt "str_ascii_iterator" (.str x t) (i + 1)), (acc, isL (vals.push (Value.str { cps := #[ch] } t₆))), (L, fun x => x = oL)] s₉ →
        ∃ (vals : Array Value) (mC : List (Str × Value)), vals.size = ((x.cps.toList.take (i + 1)).filter sepC).length ∧ Led W s.heap C mC ((I, isIt "str_ascii_iterator" (.str x t) (i + 1)) :: (acc, isL vals) :: (L, (· = oL)) :: []) s₉ :=
      fun hc _ _ s₉ D₉ => ⟨_, _, by rw [Array.size_push, hv, filt_take (by simpa using hch), hc]; rfl, D₉⟩
    have hz : vals.size ≤ sizeLine := by
      rw [hv, sizeLine_eq]
      have := List.length_filter_le sepC (x.cps.toList.take i)
      have h3 : (x.cps.toList.take i).length ≤ x.cps.size := by rw [List.length_take, Array.length_toList]; lia
      lia
    cases h1 : Txt.isspace ⟨#[ch]⟩ with
    | true =>
      rw [if_pos rfl, if_pos rfl]
      have hc : sepC ch = true := by unfold sepC; rw [h1]; rfl
      exact nmE D₇ lk_hd (l_append (pre := [(I, isIt "str_ascii_iterator" (.str x t) (i + 1))]) D₇ hz fun s₉ D₉ => app hc _ D₇ _ D₉)
    | false =>
      first | refine if_no rfl ?_ | rw [if_neg (by decide)]
      refine isTrue_or (wpAny_isTrue_Compare1 (nmE D₇ lk_hd (e_str D₇ fun s₈ t₈ D₈ => PySem.SB.contains (wpAny_truthy_bool ?_))))
      cases h2 : Txt.contains "()[]{},:" ⟨#[ch]⟩ with
      | true =>
        rw [if_pos rfl, if_pos rfl]
        have hc : sepC ch = true := by unfold sepC; rw [h2, Bool.or_true]
        exact nmE D₈ lk_hd (l_append (pre := [(I, isIt "str_ascii_iterator" (.str x t) (i + 1))]) D₈ hz fun s₉ D₉ => app hc _ D₈ _ D₉)
      | false =>
        first | refine if_no rfl ?_ | rw [if_neg (by decide)]
        refine isTrue_or_nil ?_
        first | refine if_no rfl ?_ | rw [if_neg (by decide)]
        have hc : sepC ch = false := by unfold sepC; rw [h1, h2]; rfl
        exact ⟨vals, _, by rw [hv, filt_take (by simpa using hch), hc]; rfl, D₈⟩
end
end Mine
end

section
open PySem PySem.W PyProof.Rows PySem.Calls PySem.Spec
set_option autoImplicit false
namespace Mine
theorem ssi {lo hi : Option Int} {a b n : Nat} (hlo : lo = some (a : Int) ∨ (lo = none ∧ a = 0)) (hhi : (∃ c : Nat, hi = some (c : Int) ∧ b = min c n) ∨ (hi = none ∧ b = n)) (hab : a ≤ b) (hb : b ≤ n) :
    Builtin.Str.strSliceIndices lo hi 1 n = (List.range (b - a)).map (a + ·) := by
  have key : ∀ (x y : Int), x = a → y = b → sliceRange x y 1 = (List.range (b - a)).map (a + ·) := by
    rintro _ _ rfl rfl
    unfold sliceRange
    have hc : (if (1 : Int) > 0 then (if (a : Int) < b then ((b : Int) - a + 1 - 1) / 1 else 0) else (if (a : Int) > b then ((a : Int) - b - 1 - 1) / (-1) else 0)) = ((b - a : Nat) : Int) := by
      rw [if_pos (by decide), Int.ediv_one]
      split <;> lia
    simp only [hc, Int.toNat_natCast]
    apply List.map_congr_left
    intro k _
    lia
  rcases hlo with rfl | ⟨rfl, rfl⟩ <;> rcases hhi with ⟨c, rfl, rfl⟩ | ⟨rfl, rfl⟩ <;> unfold Builtin.Str.strSliceIndices <;> refine key _ _ ?_ ?_ <;>
    simp only [show (1 : Int) > 0 from by decide, if_true] <;> (try split) <;> lia
theorem slice_cps {x : Str} {lo hi : Option Int} {a b : Nat} (hlo : lo = some (a : Int) ∨ (lo = none ∧ a = 0)) (hhi : (∃ c : Nat, hi = some (c : Int) ∧ b = min c x.cps.size) ∨ (hi = none ∧ b = x.cps.size)) (hab : a ≤ b) (hb : b ≤ x.cps.size) :
    Txt.slice x lo hi = ⟨((x.cps.toList.drop a).take (b - a)).toArray⟩ := by
  unfold Txt.slice
  have e := ssi hlo hhi hab hb
  have e' : Builtin.Str.strSliceIndices lo hi 1 x.length = (List.range (b - a)).map (a + ·) := e
  rw [e', pick_run]
  split
  · rename_i hc
    have hl : b - a = x.cps.size := by
      simp only [List.length_map, List.length_range, Bool.and_eq_true, beq_iff_eq] at hc
      exact hc.2
    have ha : a = 0 := by lia
    subst ha
    obtain ⟨cps⟩ := x
    simp only [List.drop_zero]
    rw [List.take_of_length_le (by simp at hl ⊢; lia)]
  · rfl
theorem slice_list {items : Array Value} {lo hi : Option Int} {a b : Nat} (hlo : lo = some (a : Int) ∨ (lo = none ∧ a = 0)) (hhi : (∃ c : Nat, hi = some (c : Int) ∧ b = min c items.size) ∨ (hi = none ∧ b = items.size)) (hab : a ≤ b) (hb : b ≤ items.size) :
    slicePick items lo hi none = ((items.toList.drop a).take (b - a)).toArray := by
  have e := ssi hlo hhi hab hb
  unfold slicePick
  have e' : sliceRange (sliceBounds lo hi none items.size).1 (sliceBounds lo hi none items.size).2.1 (sliceBounds lo hi none items.size).2.2 = (List.range (b - a)).map (a + ·) := e
  rw [e', pick_run]
theorem slice_one (w : Str) : (Txt.slice w none (some 1) != Str.ofString "?") = !(w.cps.toList.head? == some 63) := by
  rw [show Txt.slice w none (some 1) = Txt.slice w none (some ((1 : Nat) : Int)) from rfl, slice_cps (a := 0) (b := min 1 w.cps.size) (.inr ⟨rfl, rfl⟩) (.inl ⟨1, rfl, rfl⟩) (Nat.zero_le _) (Nat.min_le_right _ _)]
  obtain ⟨⟨l⟩⟩ := w
  cases l with
  | nil => rfl
  | cons c r =>
    have e : (List.take (min 1 (c :: r).length - 0) (List.drop 0 (c :: r))).toArray = #[c] := by simp [Nat.min_eq_left]
    show ((⟨(List.take (min 1 (c :: r).length - 0) (List.drop 0 (c :: r))).toArray⟩ : Str) != Str.ofString "?") = !((c :: r).head? == some 63)
    rw [e]
    by_cases h : c = 63
    · subst h; rfl
    · have ne : (⟨#[c]⟩ : Str) ≠ Str.ofString "?" := fun z => h (by
        have h2 : (some c : Option Nat) = (Str.ofString "?").cps[0]? := congrArg (fun x : Str => x.cps[0]?) z
        have h3 : (Str.ofString "?").cps[0]? = some 63 := by rfl
        rw [h3] at h2
        exact Option.some.inj h2)
      rw [show ((⟨#[c]⟩ : Str) != Str.ofString "?") = true from bne_iff_ne.mpr ne]
      have h4 : ((some c : Option Nat) == some 63) = false := by simpa using h
      show true = !(((some c : Option Nat)) == some 63)
      rw [h4]; rfl
end Mine
end

section
open PySem PySem.W PyProof.Rows PySem.Calls PySem.Spec
set_option autoImplicit false
namespace Mine
theorem warmrd (w : World) (h : Heap) : (hd.heap_39 w.params).In h → PySem.Challenge.rw_rh0003_01.prog = PySem.Challenge.rw_rh0003_01.prog := by
  k_fill
  intro _
  rfl
section
variable {W : Wd} {G : Heap} {L : Addr} {m : List (Str × Value)} {news pre post : List (Addr × (Obj → Prop))} {s : Shared} {A : Around} {E : Value → Shared → Prop} {env : Env} {v : Value} {pos : Pos}
  {Q : Value → Shared → Prop} {x dx : Addr} {r : RK} {ws : List (Str × Int)} {p d : Nat} {fs : List Env} {n : Nat}
theorem fmg_isop : nsIn (hd.heap_39 W.w.params) mainGlobals "is_op" = some (some (.ref 95)) := by k_is
theorem k95 : keepIn (hd.heap_39 W.w.params) (.ref 95) = true := by k_is
theorem nw_ok (R : Rdr G x dx r ws) (h : p < ws.length) : (nw ws p).cps.all (· < 128) = true ∧ (nw ws p).cps.size ≤ 100 :=
  R.ok (nw ws p, ns ws p) (List.mem_of_getElem? (nw_at h))
theorem isn_call {e : Expr} {args : List Expr} {whole : Sem Value} {p1 p2 : Pos} {Q : Bool → Shared → Prop} (h : wpAny (model pw W.w) A (eval (.Call e args [] p1) env) (fun v s' => wpAny (model pw W.w) A (truthy v) (fun b s'' => Q (!b) s'') E s') E s) :
    wpAny (model pw W.w) A (isTrue (.UnaryOp .Not (.Call e args [] p1) p2) env whole) Q E s := wpAny_isTrue_Not (it_call h)

theorem c_op (hs : Hs W G s) (ff : G.FunFrames {} fs) (c : Cx A fs (n + 4)) (R : Rdr G x dx r ws) (hG : G.get? dx = none) (hdx : ∃ o, s.heap.get? dx = some o ∧ isR r p d o) (hw : p < ws.length)
    (k : opOk (nw ws p) = true → ∀ s' t, Hs W (hid s.heap [dx]) s' → (∃ o, s'.heap.get? dx = some o ∧ isR r (p + 1) d o) → Q (.str (nw ws p) t) s')
    (hE : opOk (nw ws p) = false → ∀ e s', Out W s.heap fs [dx] e (ns ws p) (some .none) s' → E (.ref e) s') : wpAny (model pw W.w) A (call (.ref 194) [.ref x]) Q E s := by
  obtain ⟨hs', st'⟩ := mv_dx hs hG
  have R := R.mono st'
  have ff' := ffs ff st'
  refine enterC [("self", .ref x)] (news := [(dx, isR r p d)]) hs' (fun q hq => by rw [List.mem_singleton.mp hq]; exact ⟨hdx, hid_none (.head _)⟩) (by simp) (by k_is) (by k_is) c.room rfl rfl rfl rfl rfl (by decide) fun L s₁ D stk hL => ?_
  with_reducible refine x_if ?_
  refine isn_call (Call_ (n_glb D (mg_some hs.st fmg_isop) (callWith_K D.hs.X k95 (spliced_more ?_))))
  refine r_call0 D lk_hd R.inst (D.get (.head _)) rf_word ri_word k166 ?_
  refine c_word D.hs R (D.get (.head _)) (nw_at hw) (c.deep _).room fun s₂ t₂ H₂ => ?_
  have D₂ := D.back0 H₂
  refine spliced_none ⟨D₂.hs.X, ?_⟩
  have ok := nw_ok R hw
  refine c_isop (n := n) D₂.hs ((c.deep _).less (by lia)) ok.1 (by have := ok.2; lia) fun s₃ H₃ => wpAny_truthy_bool ?_
  have D₃ := D₂.back0 H₃
  cases hok : opOk (nw ws p) with
  | true =>
    first | refine if_no rfl ?_ | rw [if_neg (by decide)]
    refine x_nil (seq_next ?_)
    with_reducible refine x_ret ?_
    refine r_call0 D₃ lk_hd R.inst (D₃.get (.head _)) rf_take i180 k180 ?_
    refine c_take D₃.hs R (hid_none (.head _)) (D₃.get (.head _)) hw (c.deep _).room fun s₄ t₄ H₄ h₄ => ?_
    have D₄ := D₃.back1 (pre := []) H₄ h₄
    exact ret_v (k hok _ _ D₄.hs h₄)
  | false =>
    first | refine if_yes rfl ?_ | rw [if_pos (by decide)]
    refine x_fault (n := n) (c.less (by lia)) rfl D₃ rfl ff' (spliced_more (e_str D₃ fun s₄ t₄ D₄ => spliced_more ?_))
    refine r_call0 D₄ lk_hd R.inst (D₄.get (.head _)) rf_spot i173 k173 ?_
    refine c_spot D₄.hs R (D₄.get (.head _)) hw (c.deep _).room fun s₅ t₅ H₅ => ?_
    have D₅ := D₄.back0 H₅
    refine spliced_none ⟨_, _, _, _, rfl, D₅, fun s₆ e X => ?_⟩
    exact lv c D₅ hL rfl ff' (fun q hq => by rw [List.mem_singleton.mp hq]; exact ⟨_, .head _, rfl⟩) (by intro b o h; cases h) X (.inl rfl) fun s₇ X₇ => hE hok _ _ X₇
theorem len_app (x y : Str) : (x ++ y).length = x.length + y.length := by
  show (x.cps ++ y.cps).size = _
  rw [Array.size_append]; rfl
theorem join2 {v : Expr} {t : Str} {k2 : Nat} {p2 p3 : Pos} (h : wpAny (model pw W.w) A (eval v env) (fun v' s' => ∃ y ty, v' = .str y ty ∧ y.length ≤ 10000 ∧ ∃ G L m news, Led W G L m news s' ∧ ∀ s'' z tz, Led W G L m news s'' → Q (.str z tz) s'') E s) (ht : t.length ≤ 10000) :
    wpAny (model pw W.w) A (eval (.JoinedStr [v, .Constant (.str t) k2 p2] p3) env) Q E s := by
  refine JoinedStr_many (joinParts_cons (wpAny_mono h (fun v' s' h' => ?_) fun _ _ z => z))
  refine hideP fun PH1 hPH1 => ?_
  obtain ⟨y, ty, rfl, hy, G, L, m, news, D, hq⟩ := h'
  subst hPH1
  have e0 : (Str.empty ++ y).length = y.length := by rw [len_app]; exact Nat.zero_add _
  refine ⟨by rw [e0, sizeLine_eq]; lia, joinParts_cons (e_str D fun s₂ t₂ D₂ => ⟨by rw [len_app, e0, sizeLine_eq]; lia, joinParts_nilE (joinParts_nil (hq _ _ _ (D₂.tok _)) (by rw [len_app, e0, sizeLine_eq]; lia))⟩)⟩

theorem c_want {w : Str} {t : Tok} (hs : Hs W G s) (ff : G.FunFrames {} fs) (c : Cx A fs (n + 4)) (R : Rdr G x dx r ws) (hG : G.get? dx = none) (hdx : ∃ o, s.heap.get? dx = some o ∧ isR r p d o) (hw : p < ws.length) (hne : w ≠ "") (hws : w.length ≤ 100)
    (k : nw ws p = w → ∀ s', Hs W (hid s.heap [dx]) s' → (∃ o, s'.heap.get? dx = some o ∧ isR r (p + 1) d o) → Q .none s')
    (hE : nw ws p ≠ w → ∀ e s', Out W s.heap fs [dx] e (ns ws p) (some .none) s' → E (.ref e) s') : wpAny (model pw W.w) A (call (.ref 187) [.ref x, .str w t]) Q E s := by
  obtain ⟨hs', st'⟩ := mv_dx hs hG
  have R := R.mono st'
  have ff' := ffs ff st'
  have hne' : (w != Str.ofString "") = true := by simpa using hne
  refine enterC [("word", .str w t), ("self", .ref x)] (news := [(dx, isR r p d)]) hs' (fun q hq => by rw [List.mem_singleton.mp hq]; exact ⟨hdx, hid_none (.head _)⟩) (by simp) (by k_is) (by k_is) c.room rfl rfl rfl rfl rfl (by decide) fun L s₁ D stk hL => ?_
  with_reducible refine x_if ?_
  refine wpAny_isTrue_Compare1 (r_call0 D (lk_tl lk_hd) R.inst (D.get (.head _)) rf_word ri_word k166 ?_)
  refine c_word D.hs R (D.get (.head _)) (nw_at hw) (c.deep _).room fun s₂ t₂ H₂ => ?_
  have D₂ := D.back0 H₂
  refine n_loc D₂ lk_hd (ne_str (wpAny_truthy_bool ?_))
  by_cases hok : nw ws p = w
  · first | refine if_no (show (nw ws p != w) = false from (by simp [hok])) ?_ | rw [show (nw ws p != w) = false from by simp [hok], if_neg (by decide)]
    refine x_nil (seq_next ?_)
    with_reducible refine x_if ?_
    refine wpAny_isTrue_Compare1 (n_loc D₂ lk_hd (e_str D₂ fun s₃ t₃ D₃ => ne_str (wpAny_truthy_bool ?_)))
    rw [hne', if_pos rfl]
    refine x_expr (r_call0 D₃ (lk_tl lk_hd) R.inst (D₃.get (.head _)) rf_take i180 k180 ?_)
    refine c_take D₃.hs R (hid_none (.head _)) (D₃.get (.head _)) hw (c.deep _).room fun s₄ t₄ H₄ h₄ => ?_
    have D₄ := D₃.back1 (pre := []) H₄ h₄
    exact x_nil (seq_next (x_nil (ret_n (k hok _ D₄.hs h₄))))
  · first | refine if_yes (show (nw ws p != w) = true from (by simpa using hok)) ?_ | rw [show (nw ws p != w) = true from by simpa using hok, if_pos rfl]
    refine x_fault (n := n) (c.less (by lia)) rfl D₂ rfl ff' (spliced_more (IfExp_ ?_))
    refine wpAny_isTrue_Compare1 (n_loc D₂ lk_hd (e_str D₂ fun s₃ t₃ D₃ => ne_str (wpAny_truthy_bool ?_)))
    rw [hne', if_pos rfl]
    refine join2 (FormattedValue_plain (n_loc D₃ lk_hd (formatField_str (fun t' tk => ⟨_, _, rfl, by lia, _, _, _, _, D₃.tok _, fun s₄ z tz D₄ => ?_⟩) (by rw [sizeLine_eq]; lia)))) (by decide)
    refine spliced_more (r_call0 D₄ (lk_tl lk_hd) R.inst (D₄.get (.head _)) rf_spot i173 k173 ?_)
    refine c_spot D₄.hs R (D₄.get (.head _)) hw (c.deep _).room fun s₅ t₅ H₅ => ?_
    have D₅ := D₄.back0 H₅
    refine spliced_none ⟨_, _, _, _, rfl, D₅, fun s₆ e X => ?_⟩
    exact lv c D₅ hL rfl ff' (fun q hq => by rw [List.mem_singleton.mp hq]; exact ⟨_, .head _, rfl⟩) (by intro b o h; cases h) X (.inl rfl) fun s₇ X₇ => hE hok _ _ X₇

/-- slices -/
theorem Led.pushed (D : Led W G L m news s) (o : Obj) (hf : o.isFreed = false) : Led W G L m news { s with heap := s.heap.push o } := D.kept fun _ _ e => Heap.get?_push_of_some _ e
theorem st_slice {value slice : Expr} {y : Str} {t : Tok} {a : Addr} {l u : Option (Int × Tok)} (D : Led W G L m news s) (hsl : s.heap.IsSlice a l u none) (hy : y.length ≤ sizeLine)
    (h : ∀ s' t', Led W G L m news s' → Q (.str (Txt.slice y (l.map (·.1)) (u.map (·.1))) t') s')
    (hs : subscripted slice false (.str y t) (.ref a) = operate [.ref a, .str y t] (getItem (.str y t) (.ref a)) := by with_unfolding_all rfl) :
    wpAny (model pw W.w) A (subscriptTail value slice (.str y t) (.ref a)) Q E s := by
  refine tail_any (typeIs_str _ _ _) PySem.F.slot_str_getitem.lookup (wpAny_getItem_str_slice hsl rfl ?_) hs
  have hle := Txt.slice_le y (l.map (·.1)) (u.map (·.1))
  unfold Txt.slice at h hle
  unfold sliceMade slicePicked
  split
  · rename_i hc
    have hc' : ((1 : Int) == 1 && (Builtin.Str.strSliceIndices (l.map (·.1)) (u.map (·.1)) 1 y.length).length == y.length) = true := hc
    simp only [hc', if_true] at h
    exact h s t D
  · rename_i hc
    have hc' : ¬ (((1 : Int) == 1 && (Builtin.Str.strSliceIndices (l.map (·.1)) (u.map (·.1)) 1 y.length).length == y.length) = true) := hc
    rw [if_neg hc'] at h hle
    exact ⟨Nat.le_trans hle hy, h _ _ (D.tok _)⟩
theorem ep_none {Q : Value → Shared → Prop} (h : Q .none s) : wpAny (model pw W.w) A (evalPart none env) Q E s := wpAny_pure h
theorem ep_some {e : Expr} {Q : Value → Shared → Prop} (h : wpAny (model pw W.w) A (eval e env) Q E s) : wpAny (model pw W.w) A (evalPart (some e) env) Q E s := h

/-- the word's first sign -/
noncomputable def isVar (w : Str) : Bool := w.cps.toList.head? == some 63
theorem c_variable (hs : Hs W G s) (ff : G.FunFrames {} fs) (c : Cx A fs (n + 4)) (R : Rdr G x dx r ws) (hG : G.get? dx = none) (hdx : ∃ o, s.heap.get? dx = some o ∧ isR r p d o) (hw : p < ws.length)
    (k : isVar (nw ws p) = true → ∀ s' t, Hs W (hid s.heap [dx]) s' → (∃ o, s'.heap.get? dx = some o ∧ isR r (p + 1) d o) → Q (.str (nw ws p) t) s')
    (hE : isVar (nw ws p) = false → ∀ e s', Out W s.heap fs [dx] e (ns ws p) (some .none) s' → E (.ref e) s') : wpAny (model pw W.w) A (call (.ref 215) [.ref x]) Q E s := by
  obtain ⟨hs', st'⟩ := mv_dx hs hG
  have R := R.mono st'
  have ff' := ffs ff st'
  refine enterC [("self", .ref x)] (news := [(dx, isR r p d)]) hs' (fun q hq => by rw [List.mem_singleton.mp hq]; exact ⟨hdx, hid_none (.head _)⟩) (by simp) (by k_is) (by k_is) c.room rfl rfl rfl rfl rfl (by decide) fun L s₁ D stk hL => ?_
  with_reducible refine x_if ?_
  refine wpAny_isTrue_Compare1 ?_
  with_reducible refine Subscript_ ?_
  refine r_call0 D lk_hd R.inst (D.get (.head _)) rf_word ri_word k166 ?_
  refine c_word D.hs R (D.get (.head _)) (nw_at hw) (c.deep _).room fun s₂ t₂ H₂ => ?_
  have D₂ := D.back0 H₂
  have ok := nw_ok R hw
  have hlen : (nw ws p).length ≤ sizeLine := by have := ok.2; rw [sizeLine_eq]; show (nw ws p).cps.size ≤ _; lia
  refine wpAny_Slice (ep_none (ep_some (e_int D₂ fun s₃ t₃ D₃ => ep_none ?_)))
  refine st_slice (l := none) (u := some (1, t₃)) (D₃.pushed _ rfl) ⟨_, Heap.get?_push_size _ rfl, rfl, rfl⟩ hlen fun s₄ t₄ D₄ => ?_
  refine e_str D₄ fun s₅ t₅ D₅ => ne_str (wpAny_truthy_bool ?_)
  have key : (Txt.slice (nw ws p) none (some 1) != Str.ofString "?") = !isVar (nw ws p) := slice_one _
  show if (Txt.slice (nw ws p) none (some 1) != Str.ofString "?") = true then _ else _
  rw [key]
  cases hok : isVar (nw ws p) with
  | true =>
    first | refine if_no rfl ?_ | rw [if_neg (by decide)]
    refine x_nil (seq_next ?_)
    with_reducible refine x_ret ?_
    refine r_call0 D₅ lk_hd R.inst (D₅.get (.head _)) rf_take i180 k180 ?_
    refine c_take D₅.hs R (hid_none (.head _)) (D₅.get (.head _)) hw (c.deep _).room fun s₆ t₆ H₆ h₆ => ?_
    exact ret_v (k hok _ _ (D₅.back1 (pre := []) H₆ h₆).hs h₆)
  | false =>
    first | refine if_yes rfl ?_ | rw [if_pos (by decide)]
    refine x_fault (n := n) (c.less (by lia)) rfl D₅ rfl ff' (spliced_more (e_str D₅ fun s₆ t₆ D₆ => spliced_more ?_))
    refine r_call0 D₆ lk_hd R.inst (D₆.get (.head _)) rf_spot i173 k173 ?_
    refine c_spot D₆.hs R (D₆.get (.head _)) hw (c.deep _).room fun s₇ t₇ H₇ => ?_
    have D₇ := D₆.back0 H₇
    refine spliced_none ⟨_, _, _, _, rfl, D₇, fun s₈ e X => ?_⟩
    exact lv c D₇ hL rfl ff' (fun q hq => by rw [List.mem_singleton.mp hq]; exact ⟨_, .head _, rfl⟩) (by intro b o h; cases h) X (.inl rfl) fun s₉ X₉ => hE hok _ _ X₉
end
end Mine
end

section
open PySem PySem.W PyProof.Rows PySem.Calls PySem.Spec
set_option autoImplicit false
namespace Mine
theorem warmre (w : World) (h : Heap) : (hd.heap_39 w.params).In h → PySem.Challenge.rw_rh0003_01.prog = PySem.Challenge.rw_rh0003_01.prog := by
  k_fill
  intro _
  rfl
section
variable {W : Wd} {G : Heap} {L : Addr} {m : List (Str × Value)} {news pre post : List (Addr × (Obj → Prop))} {s : Shared} {A : Around} {E : Value → Shared → Prop} {env : Env} {v : Value} {pos : Pos}
  {Q : Value → Shared → Prop} {x dx : Addr} {r : RK} {ws : List (Str × Int)} {p d : Nat} {fs : List Env} {n : Nat}
/-- the callee's view at a call that may move the reader on -/
theorem Led.sH {P : Obj → Prop} (D : Led W G L m ((dx, P) :: news) s) : Hs W (hid s.heap [dx]) s :=
  D.view [dx] (fun d hd => by rw [List.mem_singleton.mp hd]; exact (D.nw (dx, P) (.head _)).2.2)
theorem Led.sF {P : Obj → Prop} (D : Led W G L m ((dx, P) :: news) s) (f : G.FunFrames {} fs) (hf : env.frame = some L := by rfl) (hk : env.scope.kind = .function := by rfl) : (hid s.heap [dx]).FunFrames {} (env :: fs) :=
  D.ffv f [dx] (fun d hd => by rw [List.mem_singleton.mp hd]; exact ⟨(D.nw (dx, P) (.head _)).2.2, (D.nw (dx, P) (.head _)).2.1⟩) (by rw [hk]; decide) hf
theorem Led.sG {P : Obj → Prop} (D : Led W G L m ((dx, P) :: news) s) : G.StaysIn (hid s.heap [dx]) := fun b o e => hid_get (D.hs.keep b o e) fun z => by
  rw [List.mem_singleton.mp z, (D.nw (dx, P) (.head _)).2.2] at e; cases e
theorem sN {h : Heap} : (hid h [dx]).get? dx = none := hid_none (.head _)
/-- an exception of a callee leaves the function -/
theorem lvx {s₀ : Heap} {s₁ s' : Shared} {e : Addr} {sp : Int} {tb : Option Value} {P : Obj → Prop} (c : Cx A fs n) (D : Led W (hid s₀ [dx]) L m ((dx, P) :: news) s₁) (hL : s₀.get? L = none) (hf : env.frame = some L)
    (f : (hid s₀ [dx]).FunFrames {} fs) (X : Out W s₁.heap (env :: fs) [dx] e sp tb s') (hw : Way L tb)
    (hE : ∀ s'', Out W s₀ fs [dx] e sp (some .none) s'' → E (.ref e) s'') : LeaveE W (A.deeper env) env E (.ref e) s' :=
  lv c D hL hf f (fun q hq => by rw [List.mem_singleton.mp hq]; exact ⟨_, .head _, rfl⟩) (fun b _ h _ => h) X hw hE

theorem c_begin (hs : Hs W G s) (ff : G.FunFrames {} fs) (c : Cx A fs (n + 5)) (R : Rdr G x dx r ws) (hG : G.get? dx = none) (hdx : ∃ o, s.heap.get? dx = some o ∧ isR r p d o) (hw : p < ws.length) (hd40 : nw ws p = "(" → d < 40)
    (k : nw ws p = "(" → ∀ s', Hs W (hid s.heap [dx]) s' → (∃ o, s'.heap.get? dx = some o ∧ isR r (p + 1) (d + 1) o) → Q .none s')
    (hE : nw ws p ≠ "(" → ∀ e s', Out W s.heap fs [dx] e (ns ws p) (some .none) s' → E (.ref e) s') : wpAny (model pw W.w) A (call (.ref 201) [.ref x]) Q E s := by
  obtain ⟨hs', st'⟩ := mv_dx hs hG
  have R := R.mono st'
  have ff' := ffs ff st'
  refine enterC [("self", .ref x)] (news := [(dx, isR r p d)]) hs' (fun q hq => by rw [List.mem_singleton.mp hq]; exact ⟨hdx, hid_none (.head _)⟩) (by simp) (by k_is) (by k_is) c.room rfl rfl rfl rfl rfl (by decide) fun L s₁ D stk hL => ?_
  refine x_expr (r_call1 D lk_hd R.inst (D.get (.head _)) rf_want i187 k187 (e_str D fun s₂ t₂ D₂ => ⟨D₂.hs, ?_⟩))
  refine c_want (n := n) D₂.sH (D₂.sF ff') (c.deep _) (R.mono D₂.sG) sN (D₂.get (.head _)) hw (by decide) (by decide) (fun hok s₃ H₃ h₃ => ?_) fun hno e s₃ X => ?_
  · have D₃ := D₂.back1 (pre := []) H₃ h₃
    refine x_asgA ?_
    refine wpAny_BinOp ?_
    refine hideP fun PH1 hPH1 => ?_
    obtain ⟨_, hdx₃, tp, td, rfl⟩ := D₃.get (.head _)
    subst hPH1
    refine r_attr D₃ lk_hd R.inst hdx₃ rf_deep rfl rfl fun s₄ D₄ e₄ => ?_
    refine e_int D₄ fun s₅ t₅ D₅ => ?_
    refine P.add_int (n_loc (D₅.tok _) lk_hd ?_)
    refine r_setd (d' := d + 1) (pre := []) (post := []) (D₅.tok _) R.inst fun s₆ D₆ => ?_
    with_reducible refine x_if ?_
    refine wpAny_isTrue_Compare1 ?_
    refine hideP fun PH2 hPH2 => ?_
    obtain ⟨_, hdx₆, tp₆, td₆, rfl⟩ := D₆.get (.head _)
    subst hPH2
    refine r_attr D₆ lk_hd R.inst hdx₆ rf_deep rfl rfl fun s₇ D₇ e₇ => ?_
    refine hideP fun PH3 hPH3 => ?_
    obtain ⟨_, hdx₇, tp₇, td₇, rfl⟩ := D₇.get (.head _)
    subst hPH3
    refine r_attr D₇ lk_hd R.inst hdx₇ rf_most rfl rfl fun s₈ D₈ e₈ => ?_
    refine gt_int (wpAny_truthy_bool ?_)
    first | refine if_no (show decide ((40 : Int) < ((d + 1 : Nat) : Int)) = false from (by have := hd40 hok; simp; lia)) ?_ | rw [show decide ((40 : Int) < ((d + 1 : Nat) : Int)) = false from by have := hd40 hok; simp; lia, if_neg (by decide)]
    exact x_nil (seq_next (x_nil (ret_n (k hok _ D₈.hs (D₈.get (.head _))))))
  · exact lvx c D₂ hL rfl ff' X (.inr (.inl rfl)) fun s₄ X₄ => hE hno _ _ X₄

theorem c_close (hs : Hs W G s) (ff : G.FunFrames {} fs) (c : Cx A fs (n + 5)) (R : Rdr G x dx r ws) (hG : G.get? dx = none) (hdx : ∃ o, s.heap.get? dx = some o ∧ isR r p (d + 1) o) (hw : p < ws.length)
    (k : nw ws p = ")" → ∀ s', Hs W (hid s.heap [dx]) s' → (∃ o, s'.heap.get? dx = some o ∧ isR r (p + 1) d o) → Q .none s')
    (hE : nw ws p ≠ ")" → ∀ e s', Out W s.heap fs [dx] e (ns ws p) (some .none) s' → E (.ref e) s') : wpAny (model pw W.w) A (call (.ref 208) [.ref x]) Q E s := by
  obtain ⟨hs', st'⟩ := mv_dx hs hG
  have R := R.mono st'
  have ff' := ffs ff st'
  refine enterC [("self", .ref x)] (news := [(dx, isR r p (d + 1))]) hs' (fun q hq => by rw [List.mem_singleton.mp hq]; exact ⟨hdx, hid_none (.head _)⟩) (by simp) (by k_is) (by k_is) c.room rfl rfl rfl rfl rfl (by decide) fun L s₁ D stk hL => ?_
  refine x_expr (r_call1 D lk_hd R.inst (D.get (.head _)) rf_want i187 k187 (e_str D fun s₂ t₂ D₂ => ⟨D₂.hs, ?_⟩))
  refine c_want (n := n) D₂.sH (D₂.sF ff') (c.deep _) (R.mono D₂.sG) sN (D₂.get (.head _)) hw (by decide) (by decide) (fun hok s₃ H₃ h₃ => ?_) fun hno e s₃ X => ?_
  · have D₃ := D₂.back1 (pre := []) H₃ h₃
    refine x_asgA ?_
    refine wpAny_BinOp ?_
    refine hideP fun PH4 hPH4 => ?_
    obtain ⟨_, hdx₃, tp, td, rfl⟩ := D₃.get (.head _)
    subst hPH4
    refine r_attr D₃ lk_hd R.inst hdx₃ rf_deep rfl rfl fun s₄ D₄ e₄ => ?_
    refine e_int D₄ fun s₅ t₅ D₅ => ?_
    refine sub_int (n_loc (D₅.tok _) lk_hd ?_)
    rw [show (((d + 1 : Nat) : Int) - 1) = (d : Int) from by lia]
    refine r_setd (d' := d) (pre := []) (post := []) (D₅.tok _) R.inst fun s₆ D₆ => ?_
    exact x_nil (ret_n (k hok _ D₆.hs (D₆.get (.head _))))
  · exact lvx c D₂ hL rfl ff' X (.inr (.inl rfl)) fun s₄ X₄ => hE hno _ _ X₄
end
end Mine
end

section
open PySem PySem.W PyProof.Rows PySem.Calls PySem.Spec
set_option autoImplicit false
namespace Mine
/-- words in words -/
inductive Tr
  | leaf (w : Str)
  | node (l : List Tr)
inductive Res
  | ok (t : Tr) (p : Nat)
  | er (q : Nat)

mutual
inductive Rep (h : Heap) : Value → Tr → Prop
  | leaf {w : Str} {t : Tok} : Rep h (.str w t) (.leaf w)
  | node {a : Addr} {vs : List Value} {n : Nat} {l : List Tr} : h.get? a = some (tupOf vs n) → Reps h vs l → Rep h (.ref a) (.node l)
inductive Reps (h : Heap) : List Value → List Tr → Prop
  | nil : Reps h [] []
  | cons {v : Value} {t : Tr} {vs : List Value} {l : List Tr} : Rep h v t → Reps h vs l → Reps h (v :: vs) (t :: l)
end
theorem Rep.mono' {h h' : Heap} {v : Value} {t : Tr} (k : ∀ a vs n, h.get? a = some (tupOf vs n) → h'.get? a = some (tupOf vs n)) (x : Rep h v t) : Rep h' v t := by
  induction x using Rep.rec (motive_2 := fun vs l _ => Reps h' vs l) with
  | leaf => exact .leaf
  | node e _ ih => exact .node (k _ _ _ e) ih
  | nil => exact .nil
  | cons _ _ i1 i2 => exact .cons i1 i2
theorem Rep.mono {h h' : Heap} {v : Value} {t : Tr} (x : Rep h v t) (k : h.StaysIn h') : Rep h' v t := x.mono' fun _ _ _ e => k _ _ e
theorem Reps.mono {h h' : Heap} {vs : List Value} {l : List Tr} (x : Reps h vs l) (k : h.StaysIn h') : Reps h' vs l := by
  induction l generalizing vs with
  | nil => cases x; exact .nil
  | cons t l ih => cases x with | cons a b => exact .cons (a.mono k) (ih b)
theorem Reps.snoc {h : Heap} {vs : List Value} {l : List Tr} {v : Value} {t : Tr} (x : Reps h vs l) (y : Rep h v t) : Reps h (vs ++ [v]) (l ++ [t]) := by
  induction l generalizing vs with
  | nil => cases x; exact .cons y .nil
  | cons t l ih => cases x with | cons a b => exact .cons a (ih b)
theorem Reps.len {h : Heap} {vs : List Value} {l : List Tr} (x : Reps h vs l) : vs.length = l.length := by
  induction l generalizing vs with
  | nil => cases x; rfl
  | cons t l ih => cases x with | cons a b => simp [ih b]
noncomputable def notTup (o : Obj) : Prop := ∀ vs n, o ≠ tupOf vs n

section
variable {W : Wd} {G : Heap} {L : Addr} {m : List (Str × Value)} {news : List (Addr × (Obj → Prop))} {s : Shared}
theorem Led.rep {v : Value} {t : Tr} (D : Led W G L m news s) (hn : ∀ p ∈ news, ∀ o, p.2 o → notTup o) (x : Rep s.heap v t) : Rep (hid s.heap (L :: news.map (·.1))) v t := by
  refine x.mono' fun a vs n e => hid_get e fun hm => ?_
  rcases List.mem_cons.mp hm with rfl | hm
  · obtain ⟨m₀, ⟨o, es, ep, ho, hd, _⟩, _⟩ := D.ns
    rw [ho] at e; cases e; cases hd
  · obtain ⟨p, hp, rfl⟩ := List.mem_map.mp hm
    obtain ⟨o, ho, hP⟩ := D.get hp
    rw [ho] at e; cases e
    exact hn p hp _ hP _ _ rfl
theorem Led.lo {G' : Heap} (D : Led W G' L m news s) (k : G.StaysIn G') (t : W.H.StaysIn G) : Led W G L m news s := by
  have none : ∀ b, G'.get? b = none → G.get? b = none := fun b h => by
    cases q : G.get? b with
    | none => rfl
    | some o => rw [k b o q] at h; cases h
  exact ⟨D.hs.lo k t, D.ns, none _ D.off, fun p hp => ⟨(D.nw p hp).1, (D.nw p hp).2.1, none _ (D.nw p hp).2.2⟩, D.nd⟩
end
theorem isR_nt {r : RK} {p d : Nat} (o : Obj) (h : isR r p d o) : notTup o := by
  obtain ⟨_, _, rfl⟩ := h; intro vs n q; exact Data.noConfusion (congrArg Obj.data q)
theorem isL_nt {its : Array Value} (o : Obj) (h : isL its o) : notTup o := by
  obtain ⟨n, rfl⟩ := h; intro vs n q; simp at q

-- the reader's rules, as relations
mutual
inductive PT (ws : List (Str × Int)) : Nat → Nat → Res → Prop
  | leaf {d p : Nat} : nw ws p ≠ "(" → opOk (nw ws p) = true → PT ws d p (.ok (.node [.leaf (nw ws p)]) (p + 1))
  | noop {d p : Nat} : nw ws p ≠ "(" → opOk (nw ws p) = false → PT ws d p (.er p)
  | noop2 {d p : Nat} : nw ws p = "(" → d < 40 → opOk (nw ws (p + 1)) = false → PT ws d p (.er (p + 1))
  | er1 {d p q : Nat} : nw ws p = "(" → d < 40 → opOk (nw ws (p + 1)) = true → PT ws (d + 1) (p + 2) (.er q) → PT ws d p (.er q)
  | er2 {d p p' q : Nat} {t : Tr} : nw ws p = "(" → d < 40 → opOk (nw ws (p + 1)) = true → PT ws (d + 1) (p + 2) (.ok t p') → PTs ws (d + 1) p' (.er q) → PT ws d p (.er q)
  | node {d p p' p2 : Nat} {t : Tr} {l : List Tr} : nw ws p = "(" → d < 40 → opOk (nw ws (p + 1)) = true → PT ws (d + 1) (p + 2) (.ok t p') → PTs ws (d + 1) p' (.ok (.node l) p2) →
      PT ws d p (.ok (.node (.leaf (nw ws (p + 1)) :: t :: l)) (p2 + 1))
inductive PTs (ws : List (Str × Int)) : Nat → Nat → Res → Prop
  | nil {d p : Nat} : nw ws p = ")" → PTs ws d p (.ok (.node []) p)
  | e1 {d p q : Nat} : nw ws p ≠ ")" → PT ws d p (.er q) → PTs ws d p (.er q)
  | e2 {d p p' q : Nat} {t : Tr} : nw ws p ≠ ")" → PT ws d p (.ok t p') → PTs ws d p' (.er q) → PTs ws d p (.er q)
  | cons {d p p' p2 : Nat} {t : Tr} {l : List Tr} : nw ws p ≠ ")" → PT ws d p (.ok t p') → PTs ws d p' (.ok (.node l) p2) → PTs ws d p (.ok (.node (t :: l)) p2)
end
/-- the end stands at the end alone -/
noncomputable def Ends (ws : List (Str × Int)) : Prop := ∀ p, p < ws.length → nw ws p ≠ "" → p + 1 < ws.length
theorem opOk_ne {w : Str} (h : opOk w = true) : w ≠ "" := by
  intro q; subst q; simp [opOk] at h
end Mine
end

section
open PySem PySem.W PyProof.Rows PySem.Calls PySem.Spec
set_option autoImplicit false
namespace Mine
theorem warmrf (w : World) (h : Heap) : (hd.heap_39 w.params).In h → PySem.Challenge.rw_rh0003_01.prog = PySem.Challenge.rw_rh0003_01.prog := by
  k_fill
  intro _
  rfl
theorem PT_lt {ws : List (Str × Int)} {d p : Nat} {res : Res} (h : PT ws d p res) : ∀ t p', res = .ok t p' → p < p' := by
  refine PT.rec (motive_1 := fun d p res _ => ∀ t p', res = .ok t p' → p < p') (motive_2 := fun d p res _ => ∀ t p', res = .ok t p' → p ≤ p') ?_ ?_ ?_ ?_ ?_ ?_ ?_ ?_ ?_ ?_ h
  · intro _ _ _ _ t p' e; cases e; lia
  · intro _ _ _ _ t p' e; cases e
  · intro _ _ _ _ _ t p' e; cases e
  · intro _ _ _ _ _ _ _ _ t p' e; cases e
  · intro _ _ _ _ _ _ _ _ _ _ _ _ t p' e; cases e
  · intro _ _ _ _ _ _ _ _ _ _ _ i1 i2 t p' e; cases e; have := i1 _ _ rfl; have := i2 _ _ rfl; lia
  · intro _ _ _ t p' e; cases e; lia
  · intro _ _ _ _ _ _ t p' e; cases e
  · intro _ _ _ _ _ _ _ _ _ _ t p' e; cases e
  · intro _ _ _ _ _ _ _ _ _ i1 i2 t p' e; cases e; have := i1 _ _ rfl; have := i2 _ _ rfl; lia
theorem PT_open {ws : List (Str × Int)} {d p : Nat} {res : Res} (h : PT ws d p res) (hp : nw ws p = "(") : d < 40 := by
  induction h using PT.casesOn with
  | leaf q => exact absurd hp q
  | noop q => exact absurd hp q
  | noop2 _ q => exact q
  | er1 _ q => exact q
  | er2 _ q => exact q
  | node _ q => exact q
theorem PT_no {ws : List (Str × Int)} {d p : Nat} {res : Res} (h : PT ws d p res) (hp : nw ws p ≠ "(") : (opOk (nw ws p) = true → res = .ok (.node [.leaf (nw ws p)]) (p + 1)) ∧ (opOk (nw ws p) = false → res = .er p) := by
  induction h using PT.casesOn with
  | leaf _ q => exact ⟨fun _ => rfl, fun z => (by rw [q] at z; cases z)⟩
  | noop _ q => exact ⟨fun z => (by rw [q] at z; cases z), fun _ => rfl⟩
  | noop2 q => exact absurd q hp
  | er1 q => exact absurd q hp
  | er2 q => exact absurd q hp
  | node q => exact absurd q hp
theorem PT_in {ws : List (Str × Int)} {d p : Nat} {res : Res} (h : PT ws d p res) (hp : nw ws p = "(") (hok : opOk (nw ws (p + 1)) = true) :
    ∃ resT, PT ws (d + 1) (p + 2) resT ∧ (∀ q, resT = .er q → res = .er q) ∧ ∀ t p', resT = .ok t p' → ∃ resL, PTs ws (d + 1) p' resL ∧ (∀ q, resL = .er q → res = .er q) ∧
      ∀ l p2, resL = .ok (.node l) p2 → res = .ok (.node (.leaf (nw ws (p + 1)) :: t :: l)) (p2 + 1) := by
  induction h using PT.casesOn with
  | leaf q => exact absurd hp q
  | noop q => exact absurd hp q
  | noop2 _ _ q => rw [hok] at q; cases q
  | er1 _ _ _ h => exact ⟨_, h, fun q e => (by cases e; rfl), fun t p' e => (by cases e)⟩
  | er2 _ _ _ h1 h2 => exact ⟨_, h1, fun q e => (by cases e), fun t p' e => (by cases e; exact ⟨_, h2, fun q e => (by cases e; rfl), fun l p2 e => (by cases e)⟩)⟩
  | node _ _ _ h1 h2 => exact ⟨_, h1, fun q e => (by cases e), fun t p' e => (by cases e; exact ⟨_, h2, fun q e => (by cases e), fun l p2 e => (by cases e; rfl)⟩)⟩
theorem PT_noop {ws : List (Str × Int)} {d p : Nat} {res : Res} (h : PT ws d p res) (hp : nw ws p = "(") (hok : opOk (nw ws (p + 1)) = false) : res = .er (p + 1) := by
  induction h using PT.casesOn with
  | leaf q => exact absurd hp q
  | noop q => exact absurd hp q
  | noop2 => rfl
  | er1 _ _ q => rw [hok] at q; cases q
  | er2 _ _ q => rw [hok] at q; cases q
  | node _ _ q => rw [hok] at q; cases q
noncomputable def CT (W : Wd) (ws : List (Str × Int)) (x dx : Addr) (r : RK) (f : Addr) (d p : Nat) (res : Res) : Prop :=
  ∀ (G : Heap) (s : Shared) (A : Around) (fs : List Env) (n : Nat) (E Q : Value → Shared → Prop), Hs W G s → G.FunFrames {} fs → Cx A fs n → 3 * (40 - d) + 10 ≤ n → Rdr G x dx r ws → G.get? dx = none →
    (∃ o, s.heap.get? dx = some o ∧ isR r p d o) → p < ws.length →
    (∀ t p', res = .ok t p' → ∀ s' v, Hs W (hid s.heap [dx]) s' → (∃ o, s'.heap.get? dx = some o ∧ isR r p' d o) → Rep s'.heap v t → p' < ws.length → Q v s') →
    (∀ q, res = .er q → ∀ e s', Out W s.heap fs [dx] e (ns ws q) (some .none) s' → E (.ref e) s') → wpAny (model pw W.w) A (call (.ref f) [.ref x]) Q E s

section
variable {W : Wd} {G : Heap} {L : Addr} {m : List (Str × Value)} {news pre post : List (Addr × (Obj → Prop))} {s : Shared} {A : Around} {E : Value → Shared → Prop} {env : Env} {v : Value} {pos : Pos}
  {Q : Value → Shared → Prop} {x dx : Addr} {r : RK} {ws : List (Str × Int)} {p d : Nat} {fs : List Env} {n : Nat} {res : Res}
theorem Led.perm {news' : List (Addr × (Obj → Prop))} (D : Led W G L m news s) (h : news.Perm news') : Led W G L m news' s :=
  ⟨D.hs, D.ns, D.off, fun p hp => D.nw p (h.mem_iff.mpr hp), (h.map _).nodup_iff.mp D.nd⟩
theorem kb1 {f : Value} {pos : Pos} {first : List Value} {e : Expr} {rest : List Expr} {Q : Value → Shared → Prop} (h : wpAny (model pw W.w) A (spliced (backTo pos (starEach (e :: rest) env))) (fun vs s₁ => wpAny (model pw W.w) A (call f (first ++ vs)) Q E s₁) E s) (hf : keeperOf f = pure .machine := by rfl)
    (he : starEach (e :: rest) env = (false, eval e env) :: starEach rest env := by rfl) (hplain : (backTo pos (starEach rest env)).any (·.1) = false := by rfl) :
    wpAny (model pw W.w) A (callWith pos f first (backTo pos (starEach (e :: rest) env)) []) Q E s := by
  rw [he] at h ⊢
  have h2 : wpAny (model pw W.w) A (evalArgs f true (backTo pos ((false, eval e env) :: starEach rest env)) []) (fun x' s₁ => True ∧ wpAny (model pw W.w) A (call f (first ++ x'.pos) x'.kw) Q E s₁) E s :=
    evalArgs_plain (wpAny_mono h (fun vs s₁ z => ⟨trivial, z⟩) fun _ _ z => z)
  exact callWith_of (P := fun _ => True) (by show ((false || (backTo pos (starEach rest env)).any (·.1)) || false) = false; rw [hplain]; rfl) (fun h _ => ⟨.machine, .inr (.inl rfl), by rw [hf]; exact .now⟩) h2
theorem fmg_tuple : nsIn (hd.heap_39 W.w.params) mainGlobals "tuple" = some none := by k_is
theorem x_append {o : Str} {p1 p2 p3 p4 : Pos} {ae : Expr} {rest : List Stmt} {l : Addr} {its : Array Value} {QF : Flow → Shared → Prop} {qn : Str} {sc : Scope} {fa : Addr} {cd : Value} {pl : Sem Bool} (D : Led W G L m (pre ++ (l, isL its) :: post) s) (hv : lk m o = some (.ref l)) 
    (h : wpAny (model pw W.w) A (eval ae (envOf qn sc L fa cd)) (fun v s₁ => ∃ G' m' pre' post' its', Led W G' L m' (pre' ++ (l, isL its') :: post') s₁ ∧ its'.size ≤ sizeLine ∧ ∀ s₂, Led W G' L m' (pre' ++ (l, isL (its'.push v)) :: post') s₂ → wpAny (model pw W.w) A (execs rest (envOf qn sc L fa cd)) QF E s₂) E s)
    (hk : sc.kind = .function := by rfl) (hl : (envOf qn sc L fa cd).kindOf o = some .local := by rfl) (hd : (o == ("__debug__" : Str)) = false := by decide)
    (he : eval (.Call (.Attribute (.Name o p1) "append" p2) [ae] [] p3) (envOf qn sc L fa cd) = (do let ov ← eval (.Name o p1) (envOf qn sc L fa cd); standAt p2.atName; let (f, first) ← holding [ov] (getMethod ov "append" pl); callWith p3 f first (backTo p3 (starEach [ae] (envOf qn sc L fa cd))) []) := by with_unfolding_all rfl)
    (hs : starEach [ae] (envOf qn sc L fa cd) = (false, eval ae (envOf qn sc L fa cd)) :: starEach [] (envOf qn sc L fa cd) := by rfl)
    (hw : swapsWith (.Call (.Attribute (.Name o p1) "append" p2) [ae] [] p3) none p4.line (envOf qn sc L fa cd) = pure false := by rfl) (hi : interactive (envOf qn sc L fa cd) = false := by rfl) :
    wpAny (model pw W.w) A (execs (.Expr (.Call (.Attribute (.Name o p1) "append" p2) [ae] [] p3) p4 :: rest) (envOf qn sc L fa cd)) QF E s := by
  obtain ⟨n, e⟩ := isL_get (D.nw (l, isL its) (by simp)).1
  refine x_expr (l_meth (p1 := p1) PySem.F.slot_list_append PySem.F.type_list_append (n_loc D hv ⟨l, n, its, rfl, e, kb1 (spliced_more (wpAny_mono h (fun v s₁ h₁ => spliced_none ?_) fun _ _ z => z) hs) rfl hs rfl⟩ hk hl hd) he) hi hw
  refine hideP fun PH1 hPH1 => ?_
  obtain ⟨G', m', pre', post', its', D', hz, hq⟩ := h₁
  subst hPH1
  exact l_append D' hz hq
theorem PTs_end {d p : Nat} {res : Res} (h : PTs ws d p res) (hp : nw ws p = ")") : res = .ok (.node []) p := by
  induction h using PTs.casesOn with
  | nil => rfl
  | e1 q => exact absurd hp q
  | e2 q => exact absurd hp q
  | cons q => exact absurd hp q
theorem PTs_in {d p : Nat} {res : Res} (h : PTs ws d p res) (hp : nw ws p ≠ ")") : ∃ resT, PT ws d p resT ∧ (∀ q, resT = .er q → res = .er q) ∧ ∀ t p', resT = .ok t p' → ∃ resL, PTs ws d p' resL ∧
    (∀ q, resL = .er q → res = .er q) ∧ ∀ l p2, resL = .ok (.node l) p2 → res = .ok (.node (t :: l)) p2 := by
  induction h using PTs.casesOn with
  | nil q => exact absurd q hp
  | e1 _ h => exact ⟨_, h, fun q e => (by cases e; rfl), fun t p' e => (by cases e)⟩
  | e2 _ h1 h2 => exact ⟨_, h1, fun q e => (by cases e), fun t p' e => (by cases e; exact ⟨_, h2, fun q e => (by cases e; rfl), fun l p2 e => (by cases e)⟩)⟩
  | cons _ h1 h2 => exact ⟨_, h1, fun q e => (by cases e), fun t p' e => (by cases e; exact ⟨_, h2, fun q e => (by cases e), fun l p2 e => (by cases e; rfl)⟩)⟩
theorem fl_nt {news : List (Addr × (Obj → Prop))} {fl : Addr} {its : Array Value} (h : news = [(dx, isR r p d), (fl, isL its)]) : ∀ q ∈ news, ∀ o, q.2 o → notTup o := by
  subst h
  intro q hq o ho
  rcases List.mem_cons.mp hq with rfl | hq
  · exact isR_nt o ho
  · rw [List.mem_singleton.mp hq] at ho; exact isL_nt o ho
inductive TermI (W : Wd) (s : Shared) (L x dx fl : Addr) (r : RK) (ws : List (Str × Int)) (d p : Nat) (res : Res) (n' : Nat) (s' : Shared) : Prop
  | mk (p1 : Nat) (vals : List Value) (ts : List Tr) (resL : Res) (G₁ : Heap) (_ : n' = ws.length - p1) (_ : p + 1 < p1) (_ : p1 < ws.length) (_ : Led W G₁ L [("found", .ref fl), ("self", .ref x)] [(dx, isR r p1 (d + 1)), (fl, isL vals.toArray)] s') (_ : Reps G₁ vals ts) (_ : (hid s.heap [dx]).StaysIn G₁) (_ : vals.length ≤ p1) (_ : PTs ws (d + 1) p1 resL) (_ : (∀ q, resL = .er q → res = .er q)) (_ : ∀ l p2, resL = .ok (.node l) p2 → res = .ok (.node (ts ++ l)) (p2 + 1)) : TermI W s L x dx fl r ws d p res n' s'
theorem c_term (he : Ends ws) : ∀ (N d p : Nat) (res : Res), ws.length - p ≤ N → PT ws d p res → CT W ws x dx r 222 d p res := by
  intro N
  induction N with
  | zero => intro d p res hN h G s A fs n E Q hs ff c hn R hG hdx hw; lia
  | succ N ih =>
    intro d p res hN h G s A fs n E Q hs ff c hn R hG hdx hw k hE
    obtain ⟨hs', st'⟩ := mv_dx hs hG
    have R := R.mono st'
    have ff' := ffs ff st'
    obtain ⟨n, rfl⟩ : ∃ n', n = n' + 6 := ⟨n - 6, by lia⟩
    refine enterC [("self", .ref x)] (news := [(dx, isR r p d)]) hs' (fun q hq => by rw [List.mem_singleton.mp hq]; exact ⟨hdx, hid_none (.head _)⟩) (by simp) (by k_is) (by k_is) c.room rfl rfl rfl rfl rfl (by decide) fun L s₁ D stk hL => ?_
    refine hide fun Qe Ee hQe hEe => ?_
    with_reducible refine x_if ?_
    refine wpAny_isTrue_Compare1 (r_call0 D lk_hd R.inst (D.get (.head _)) rf_word ri_word k166 ?_)
    refine c_word D.hs R (D.get (.head _)) (nw_at hw) (c.deep _).room fun s₂ t₂ H₂ => ?_
    have D₂ := D.back0 H₂
    refine e_str D₂ fun s₃ t₃ D₃ => ne_str (wpAny_truthy_bool ?_)
    by_cases hp : nw ws p = "("
    · first | refine if_no (show (nw ws p != Str.ofString "(") = false from (by simpa using hp)) ?_ | rw [show (nw ws p != Str.ofString "(") = false from by simpa using hp, if_neg (by decide)]
      refine x_nil (seq_next ?_)
      have hd40 := PT_open h hp
      have hw1 : p + 1 < ws.length := he p hw (by rw [hp]; decide)
      refine x_expr (r_call0 D₃ lk_hd R.inst (D₃.get (.head _)) rf_begin i201 k201 ?_)
      refine c_begin (n := n) D₃.sH (D₃.sF ff') (c.deep _) (R.mono D₃.sG) sN (D₃.get (.head _)) hw (fun _ => hd40) (fun _ s₄ H₄ h₄ => ?_) fun hno => absurd hp hno
      have D₄ := D₃.back1 (pre := []) H₄ h₄
      refine x_asg (List_ (spliced_more (r_call0 D₄ lk_hd R.inst (D₄.get (.head _)) rf_op i194 k194 ?_)))
      refine c_op (n := n + 1) D₄.sH (D₄.sF ff') (c.deep _) (R.mono D₄.sG) sN (D₄.get (.head _)) hw1 (fun hok s₅ t₅ H₅ h₅ => ?_) fun hno e s₅ X => ?_
      rotate_left
      · subst hEe; exact lvx c D₄ hL rfl ff' X (.inr (.inl rfl)) fun s₆ X₆ => hE _ (PT_noop h hp hno) _ _ X₆
      have D₅ := D₄.back1 (pre := []) H₅ h₅
      have hw2 : p + 1 + 1 < ws.length := he _ hw1 (opOk_ne hok)
      obtain ⟨resT, hT, hTe, hTo⟩ := PT_in h hp hok
      refine spliced_more (r_call0 D₅ lk_hd R.inst (D₅.get (.head _)) rf_term i222 k222 ?_)
      refine ih (d + 1) (p + 2) resT (by lia) hT _ _ _ _ (n + 5) _ _ D₅.sH (D₅.sF ff') (c.deep _) (by lia) (R.mono D₅.sG) sN (D₅.get (.head _)) hw2 (fun t p' hr s₆ v H₆ h₆ hv hp' => ?_) fun q hq e s₆ X => ?_
      rotate_left
      · subst hEe; exact lvx c D₅ hL rfl ff' X (.inr (.inl rfl)) fun s₇ X₇ => hE _ (hTe _ hq) _ _ X₇
      have D₆ := D₅.back1 (pre := []) H₆ h₆
      obtain ⟨resL, hL1, hLe, hLo⟩ := hTo t p' hr
      obtain ⟨E₆, g₆⟩ := D₆.anew
      have rv₆ := D₆.rep (fun q hq o ho => by rw [List.mem_singleton.mp hq] at ho; exact isR_nt o ho) hv
      refine spliced_none (l_new E₆ (by size_fits) fun fl s₇ D₇ => ?_)
      refine s_loc D₇ fun s₈ D₈ => ?_
      have D₈ := D₈.perm (.swap _ _ _)
      refine gen (hid s₆.heap (L :: List.map (fun x => x.fst) ([] ++ [(dx, isR r p' (d + 1))]))) fun G₆ hG₆ => ?_
      rw [hG₆] at D₈ g₆ rv₆
      clear D₇ E₆
      have hpp := PT_lt hT t p' hr
      refine x_whileH (TermI W s L x dx fl r ws d p res) (ws.length - p') ?_ ?_
      · exact ⟨p', _, [.leaf (nw ws (p + 1)), t], resL, G₆, rfl, by lia, hp', D₈, .cons .leaf (.cons rv₆ .nil), g₆, by show 2 ≤ p'; lia, hL1, hLe, hLo⟩
      · rintro Q₁ E₁ B₁ T₁ hQ₁ hE₁ hB₁ hT₁ n' s₉ ⟨p1, vals, ts, resL, G₁, rfl, hp1, hp1w, D₉, rs, g₁, hvl, hL1, hLe, hLo⟩
        have R₁ := R.mono g₁
        have f₁ := ffs ff' g₁
        have hsl := R.len
        refine wpAny_isTrue_Compare1 (r_call0 D₉ (lk_tl lk_hd) R₁.inst (D₉.get (.head _)) rf_word ri_word k166 ?_)
        refine c_word D₉.hs R₁ (D₉.get (.head _)) (nw_at hp1w) (c.deep _).room fun s₁₀ t₁₀ H₁₀ => ?_
        have D₁₀ := D₉.back0 H₁₀
        refine e_str D₁₀ fun s₁₁ t₁₁ D₁₁ => ne_str (wpAny_truthy_bool ?_)
        by_cases hq : nw ws p1 = ")"
        · first | refine if_no (show (nw ws p1 != Str.ofString ")") = false from (by simpa using hq)) ?_ | rw [show (nw ws p1 != Str.ofString ")") = false from by simpa using hq, if_neg (by decide)]
          refine x_expr (r_call0 D₁₁ (lk_tl lk_hd) R₁.inst (D₁₁.get (.head _)) rf_close i208 k208 ?_)
          refine c_close (n := n) D₁₁.sH (D₁₁.sF f₁) (c.deep _) (R₁.mono D₁₁.sG) sN (D₁₁.get (.head _)) hp1w (fun _ s₁₂ H₁₂ h₁₂ => ?_) fun hno => absurd hq hno
          have D₁₂ := D₁₁.back1 (pre := []) H₁₂ h₁₂
          refine x_ret (Call_ (n_blt D₁₂ (mg_none hs.st fmg_tuple) rfl (kb1 (spliced_more (n_loc D₁₂ lk_hd (spliced_none ?_))))))
          obtain ⟨_, hfl⟩ := isL_get (D₁₂.nw (fl, isL vals.toArray) (.tail _ (.head _))).1
          refine call_tuple_list (isList_of hfl) (fun h' k' => ?_) (by rw [sizeLine_eq, List.size_toArray]; lia)
          have D₁₃ := (D₁₂.kept (s' := { s₁₂ with heap := h' }) k').push (tupOf vals 0) (· = tupOf vals 0) rfl rfl
          have hr := hLo [] p1 (PTs_end hL1 hq)
          rw [List.append_nil] at hr
          obtain ⟨_, ha, rfl⟩ := D₁₃.get (.head _)
          have D₁₄ := D₁₃.lo g₁ hs'.top
          subst hQ₁
          subst hQe; exact ret_v (k _ _ hr _ _ D₁₄.hs (D₁₄.get (.tail _ (.head _))) (.node ha (rs.mono D₁₃.hs.keep)) (he p1 hp1w (by rw [hq]; decide)))
        · first | refine if_yes (show (nw ws p1 != Str.ofString ")") = true from (by simpa using hq)) ?_ | rw [show (nw ws p1 != Str.ofString ")") = true from by simpa using hq, if_pos rfl]
          obtain ⟨resT', hT', hTe', hTo'⟩ := PTs_in hL1 hq
          refine x_append (pre := [(dx, isR r p1 (d + 1))]) D₁₁ lk_hd (r_call0 D₁₁ (lk_tl lk_hd) R₁.inst (D₁₁.get (.head _)) rf_term i222 k222 ?_)
          refine ih (d + 1) p1 resT' (by lia) hT' _ _ _ _ (n + 5) _ _ D₁₁.sH (D₁₁.sF f₁) (c.deep _) (by lia) (R₁.mono D₁₁.sG) sN (D₁₁.get (.head _)) hp1w (fun t2 p2 hr2 s₁₂ v2 H₁₂ h₁₂ hv2 hp2 => ?_) fun q hq2 e s₁₂ X => ?_
          · have D₁₂ := D₁₁.back1 (pre := []) H₁₂ h₁₂
            obtain ⟨E₁₂, g₁₂⟩ := D₁₂.anew
            have rv₁₂ := D₁₂.rep (fl_nt rfl) hv2
            obtain ⟨resL2, hL2, hLe2, hLo2⟩ := hTo' t2 p2 hr2
            have hlt := PT_lt hT' t2 p2 hr2
            refine ⟨_, _, [(dx, isR r p2 (d + 1))], [], vals.toArray, E₁₂, by rw [sizeLine_eq, List.size_toArray]; lia, fun s₁₃ D₁₃ => x_nil ?_⟩
            subst hB₁
            refine ⟨_, by lia, p2, vals ++ [v2], ts ++ [t2], resL2, _, rfl, by lia, hp2, by rw [← List.push_toArray]; exact D₁₃, (rs.mono g₁₂).snoc rv₁₂, fun b o z => g₁₂ b o (g₁ b o z), by rw [List.length_append]; show vals.length + 1 ≤ p2; lia, hL2, fun q e => hLe q (hLe2 q e), fun l p3 e => ?_⟩
            rw [hLo _ _ (hLo2 l p3 e), List.append_assoc]; rfl
          · subst hT₁ hE₁
            refine tn c rfl X (.inr (.inl rfl)) fun s₁₃ X₁₃ => ?_
            subst hEe; exact lvx c (D₁₁.lo g₁ hs'.top) hL rfl ff' X₁₃ (.inr (.inr rfl)) fun s₁₄ X₁₄ => hE _ (hLe _ (hTe' _ hq2)) _ _ X₁₄
    · first | refine if_yes (show (nw ws p != Str.ofString "(") = true from (by simpa using hp)) ?_ | rw [show (nw ws p != Str.ofString "(") = true from by simpa using hp, if_pos rfl]
      with_reducible refine x_ret ?_
      refine Tuple_ (spliced_more (r_call0 D₃ lk_hd R.inst (D₃.get (.head _)) rf_op i194 k194 ?_))
      refine c_op (n := n + 1) D₃.sH (D₃.sF ff') (c.deep _) (R.mono D₃.sG) sN (D₃.get (.head _)) hw (fun hok s₄ t₄ H₄ h₄ => ?_) fun hno e s₄ X => ?_
      · have D₄ := D₃.back1 (pre := []) H₄ h₄
        refine spliced_none (t_new D₄ (by size_fits) fun a s₅ D₅ => ?_)
        have hr : res = .ok (.node [.leaf (nw ws p)]) (p + 1) := (PT_no h hp).1 hok
        obtain ⟨_, ha, rfl⟩ := D₅.get (.head _)
        subst hQe; refine ret_v (k _ _ hr _ _ D₅.hs (D₅.get (.tail _ (.head _))) (.node ha (.cons .leaf .nil)) (he p hw ?_))
        exact opOk_ne hok
      · have hr : res = .er p := (PT_no h hp).2 hno
        subst hEe; exact lvx c D₃ hL rfl ff' X (.inr (.inl rfl)) fun s₅ X₅ => hE _ hr _ _ X₅
end
end Mine
end

section
open PySem PySem.W PyProof.Rows PySem.Calls PySem.Spec
set_option autoImplicit false
namespace Mine
inductive ResL
  | ok (f : List (Str × Tr)) (p : Nat)
  | er (q : Nat)
noncomputable def kinds : List Str := ["same", "told", "rule", "turn", "join", "under"]
/-- the pairs of a rule's places, in the order of their names: only two names are about -/
noncomputable def ordP (f : List (Str × Tr)) : List (Str × Tr) := f.filter (·.1 == Str.ofString "?x") ++ f.filter (·.1 == Str.ofString "?y")
noncomputable def pairT (q : Str × Tr) : Tr := .node [.leaf q.1, q.2]
inductive PL (ws : List (Str × Int)) (d : Nat) : Nat → List (Str × Tr) → ResL → Prop
  | nil {p : Nat} {f : List (Str × Tr)} : nw ws p = ")" → PL ws d p f (.ok f p)
  | novar {p : Nat} {f : List (Str × Tr)} : nw ws p ≠ ")" → isVar (nw ws p) = false → PL ws d p f (.er p)
  | twice {p : Nat} {f : List (Str × Tr)} : nw ws p ≠ ")" → isVar (nw ws p) = true → nw ws p ∈ f.map (·.1) → PL ws d p f (.er p)
  | er {p q : Nat} {f : List (Str × Tr)} : nw ws p ≠ ")" → isVar (nw ws p) = true → nw ws p ∉ f.map (·.1) → PT ws d (p + 1) (.er q) → PL ws d p f (.er q)
  | cons {p p' : Nat} {t : Tr} {f : List (Str × Tr)} {res : ResL} : nw ws p ≠ ")" → isVar (nw ws p) = true → nw ws p ∉ f.map (·.1) → PT ws d (p + 1) (.ok t p') → PL ws d p' (f ++ [(nw ws p, t)]) res → PL ws d p f res
noncomputable def Res.wrap (g : Tr → Tr) : Res → Res
  | .ok t p => .ok (g t) p
  | .er q => .er q
mutual
inductive PP (ws : List (Str × Int)) : Nat → Nat → Res → Prop
  | noopen {d p : Nat} : nw ws p ≠ "(" → PP ws d p (.er p)
  | noop {d p : Nat} : nw ws p = "(" → d < 40 → opOk (nw ws (p + 1)) = false → PP ws d p (.er (p + 1))
  | nokind {d p : Nat} : nw ws p = "(" → d < 40 → opOk (nw ws (p + 1)) = true → nw ws (p + 1) ∉ kinds → PP ws d p (.er (p + 1))
  | body {d p q : Nat} : nw ws p = "(" → d < 40 → opOk (nw ws (p + 1)) = true → PB ws (nw ws (p + 1)) (d + 1) (p + 2) (.er q) → PP ws d p (.er q)
  | noclose {d p p' : Nat} {t : Tr} : nw ws p = "(" → d < 40 → opOk (nw ws (p + 1)) = true → PB ws (nw ws (p + 1)) (d + 1) (p + 2) (.ok t p') → nw ws p' ≠ ")" → PP ws d p (.er p')
  | ok {d p p' : Nat} {t : Tr} : nw ws p = "(" → d < 40 → opOk (nw ws (p + 1)) = true → PB ws (nw ws (p + 1)) (d + 1) (p + 2) (.ok t p') → nw ws p' = ")" → PP ws d p (.ok t (p' + 1))
inductive PB (ws : List (Str × Int)) : Str → Nat → Nat → Res → Prop
  | same {d p : Nat} {res : Res} : PT ws d p res → PB ws "same" d p (res.wrap fun t => .node [.leaf "same", t])
  | told {d p : Nat} : opOk (nw ws p) = true → PB ws "told" d p (.ok (.node [.leaf "told", .leaf (nw ws p)]) (p + 1))
  | toldE {d p : Nat} : opOk (nw ws p) = false → PB ws "told" d p (.er p)
  | ruleE {d p : Nat} : opOk (nw ws p) = false → PB ws "rule" d p (.er p)
  | ruleL {d p q : Nat} : opOk (nw ws p) = true → PL ws d (p + 1) [] (.er q) → PB ws "rule" d p (.er q)
  | rule {d p p' : Nat} {f : List (Str × Tr)} : opOk (nw ws p) = true → PL ws d (p + 1) [] (.ok f p') → PB ws "rule" d p (.ok (.node [.leaf "rule", .leaf (nw ws p), .node ((ordP f).map pairT)]) p')
  | turn {d p : Nat} {res : Res} : PP ws d p res → PB ws "turn" d p (res.wrap fun t => .node [.leaf "turn", t])
  | join1 {d p q : Nat} : PP ws d p (.er q) → PB ws "join" d p (.er q)
  | join2 {d p p1 q : Nat} {t : Tr} : PP ws d p (.ok t p1) → PP ws d p1 (.er q) → PB ws "join" d p (.er q)
  | join {d p p1 p2 : Nat} {t t2 : Tr} {res : Res} : PP ws d p (.ok t p1) → PP ws d p1 (.ok t2 p2) → PJ ws d p2 (.node [.leaf "join", t, t2]) res → PB ws "join" d p res
  | underE {d p : Nat} : opOk (nw ws p) = false → PB ws "under" d p (.er p)
  | underL {d p q : Nat} : opOk (nw ws p) = true → PPs ws d (p + 1) (.er q) → PB ws "under" d p (.er q)
  | under {d p p' : Nat} {l : List Tr} : opOk (nw ws p) = true → PPs ws d (p + 1) (.ok (.node l) p') → PB ws "under" d p (.ok (.node [.leaf "under", .leaf (nw ws p), .node l]) p')
inductive PJ (ws : List (Str × Int)) : Nat → Nat → Tr → Res → Prop
  | nil {d p : Nat} {acc : Tr} : nw ws p = ")" → PJ ws d p acc (.ok acc p)
  | er {d p q : Nat} {acc : Tr} : nw ws p ≠ ")" → PP ws d p (.er q) → PJ ws d p acc (.er q)
  | cons {d p p' : Nat} {acc t : Tr} {res : Res} : nw ws p ≠ ")" → PP ws d p (.ok t p') → PJ ws d p' (.node [.leaf "join", acc, t]) res → PJ ws d p acc res
inductive PPs (ws : List (Str × Int)) : Nat → Nat → Res → Prop
  | nil {d p : Nat} : nw ws p = ")" → PPs ws d p (.ok (.node []) p)
  | e1 {d p q : Nat} : nw ws p ≠ ")" → PP ws d p (.er q) → PPs ws d p (.er q)
  | e2 {d p p' q : Nat} {t : Tr} : nw ws p ≠ ")" → PP ws d p (.ok t p') → PPs ws d p' (.er q) → PPs ws d p (.er q)
  | cons {d p p' p2 : Nat} {t : Tr} {l : List Tr} : nw ws p ≠ ")" → PP ws d p (.ok t p') → PPs ws d p' (.ok (.node l) p2) → PPs ws d p (.ok (.node (t :: l)) p2)
end
variable {ws : List (Str × Int)} {d p : Nat} {res : Res}
theorem wrap_ok {g : Tr → Tr} {t : Tr} {p' : Nat} (h : res.wrap g = .ok t p') : ∃ t', res = .ok t' p' ∧ t = g t' := by
  cases res with
  | ok t' q => cases h; exact ⟨_, rfl, rfl⟩
  | er => cases h
theorem wrap_er {g : Tr → Tr} {q : Nat} (h : res = .er q) : res.wrap g = .er q := by subst h; rfl
theorem wrap_k {g : Tr → Tr} {t : Tr} {p' : Nat} (h : res = .ok t p') : res.wrap g = .ok (g t) p' := by subst h; rfl
theorem PL_lt {f f' : List (Str × Tr)} {rl : ResL} {p' : Nat} (h : PL ws d p f rl) : rl = .ok f' p' → p ≤ p' := by
  induction h with
  | nil => intro e; cases e; lia
  | novar => intro e; cases e
  | twice => intro e; cases e
  | er => intro e; cases e
  | cons _ _ _ h _ ih => intro e; have := ih e; have := PT_lt h _ _ rfl; lia
theorem PP_lt (h : PP ws d p res) : ∀ t p', res = .ok t p' → p < p' := by
  refine PP.rec (motive_1 := fun d p res _ => ∀ t p', res = .ok t p' → p < p') (motive_2 := fun _ d p res _ => ∀ t p', res = .ok t p' → p ≤ p') (motive_3 := fun d p _ res _ => ∀ t p', res = .ok t p' → p ≤ p') (motive_4 := fun d p res _ => ∀ t p', res = .ok t p' → p ≤ p')
    ?_ ?_ ?_ ?_ ?_ ?_ ?_ ?_ ?_ ?_ ?_ ?_ ?_ ?_ ?_ ?_ ?_ ?_ ?_ ?_ ?_ ?_ ?_ ?_ ?_ ?_ h
  · intro _ _ _ t p' e; cases e
  · intro _ _ _ _ _ t p' e; cases e
  · intro _ _ _ _ _ _ t p' e; cases e
  · intro _ _ _ _ _ _ _ _ t p' e; cases e
  · intro _ _ _ _ _ _ _ _ _ _ t p' e; cases e
  · intro _ _ _ _ _ _ _ _ _ i t p' e; cases e; have := i _ _ rfl; lia
  · intro _ _ _ h t p' e; obtain ⟨t', e', _⟩ := wrap_ok e; have := PT_lt h _ _ e'; lia
  · intro _ _ _ t p' e; cases e; lia
  · intro _ _ _ t p' e; cases e
  · intro _ _ _ t p' e; cases e
  · intro _ _ _ _ _ t p' e; cases e
  · intro _ _ _ _ _ h t p' e; cases e; have := PL_lt h rfl; lia
  · intro _ _ _ _ i t p' e; obtain ⟨t', e', _⟩ := wrap_ok e; have := i _ _ e'; lia
  · intro _ _ _ _ _ t p' e; cases e
  · intro _ _ _ _ _ _ _ _ _ t p' e; cases e
  · intro _ _ _ _ _ _ _ _ _ _ i1 i2 i3 t p' e; have := i1 _ _ rfl; have := i2 _ _ rfl; have := i3 _ _ e; lia
  · intro _ _ _ t p' e; cases e
  · intro _ _ _ _ _ _ t p' e; cases e
  · intro _ _ _ _ _ _ i t p' e; cases e; have := i _ _ rfl; lia
  · intro _ _ _ _ t p' e; cases e; lia
  · intro _ _ _ _ _ _ _ t p' e; cases e
  · intro _ _ _ _ _ _ _ _ _ i1 i2 t p' e; have := i1 _ _ rfl; have := i2 _ _ e; lia
  · intro _ _ _ t p' e; cases e; lia
  · intro _ _ _ _ _ _ t p' e; cases e
  · intro _ _ _ _ _ _ _ _ _ _ t p' e; cases e
  · intro _ _ _ _ _ _ _ _ _ i1 i2 t p' e; cases e; have := i1 _ _ rfl; have := i2 _ _ rfl; lia
theorem PP_open (h : PP ws d p res) (hp : nw ws p = "(") : d < 40 := by
  induction h using PP.casesOn with
  | noopen q => exact absurd hp q
  | noop _ q => exact q
  | nokind _ q => exact q
  | body _ q => exact q
  | noclose _ q => exact q
  | ok _ q => exact q
theorem PP_no (h : PP ws d p res) (hp : nw ws p ≠ "(") : res = .er p := by
  induction h using PP.casesOn with
  | noopen q => rfl
  | noop q => exact absurd q hp
  | nokind q => exact absurd q hp
  | body q => exact absurd q hp
  | noclose q => exact absurd q hp
  | ok q => exact absurd q hp
theorem PP_noop (h : PP ws d p res) (hp : nw ws p = "(") (hok : opOk (nw ws (p + 1)) = false) : res = .er (p + 1) := by
  induction h using PP.casesOn with
  | noopen q => exact absurd hp q
  | noop => rfl
  | nokind => rfl
  | body _ _ q => rw [hok] at q; cases q
  | noclose _ _ q => rw [hok] at q; cases q
  | ok _ _ q => rw [hok] at q; cases q
theorem PB_kind {k : Str} (h : PB ws k d p res) : k ∈ kinds := by
  cases h <;> decide
theorem PP_in (h : PP ws d p res) (hp : nw ws p = "(") (hok : opOk (nw ws (p + 1)) = true) (hk : nw ws (p + 1) ∈ kinds) :
    ∃ resB, PB ws (nw ws (p + 1)) (d + 1) (p + 2) resB ∧ (∀ q, resB = .er q → res = .er q) ∧ ∀ t p', resB = .ok t p' → (nw ws p' ≠ ")" → res = .er p') ∧ (nw ws p' = ")" → res = .ok t (p' + 1)) := by
  induction h using PP.casesOn with
  | noopen q => exact absurd hp q
  | noop _ _ q => rw [hok] at q; cases q
  | nokind _ _ _ q => exact absurd hk q
  | body _ _ _ h => exact ⟨_, h, fun q e => (by cases e; rfl), fun t p' e => (by cases e)⟩
  | noclose _ _ _ h q => exact ⟨_, h, fun q e => (by cases e), fun t p' e => (by cases e; exact ⟨fun _ => rfl, fun z => absurd z q⟩)⟩
  | ok _ _ _ h q => exact ⟨_, h, fun q e => (by cases e), fun t p' e => (by cases e; exact ⟨fun z => absurd q z, fun _ => rfl⟩)⟩
theorem PP_nokind (h : PP ws d p res) (hp : nw ws p = "(") (hok : opOk (nw ws (p + 1)) = true) (hk : nw ws (p + 1) ∉ kinds) : res = .er (p + 1) := by
  induction h using PP.casesOn with
  | noopen q => exact absurd hp q
  | noop => rfl
  | nokind => rfl
  | body _ _ _ h => exact absurd (PB_kind h) hk
  | noclose _ _ _ h => exact absurd (PB_kind h) hk
  | ok _ _ _ h => exact absurd (PB_kind h) hk
end Mine
namespace Mine
section
variable {ws : List (Str × Int)} {d p : Nat} {res : Res} {k : Str}
theorem PB_same (h : PB ws k d p res) (hk : k = "same") : ∃ r, PT ws d p r ∧ res = r.wrap fun t => .node [.leaf "same", t] := by
  induction h using PB.casesOn with
  | same h => exact ⟨_, h, rfl⟩
  | _ => exact absurd hk (by decide)
theorem PB_told (h : PB ws k d p res) (hk : k = "told") : (opOk (nw ws p) = true → res = .ok (.node [.leaf "told", .leaf (nw ws p)]) (p + 1)) ∧ (opOk (nw ws p) = false → res = .er p) := by
  induction h using PB.casesOn with
  | told h => exact ⟨fun _ => rfl, fun z => (by rw [h] at z; cases z)⟩
  | toldE h => exact ⟨fun z => (by rw [h] at z; cases z), fun _ => rfl⟩
  | _ => exact absurd hk (by decide)
theorem PB_rule (h : PB ws k d p res) (hk : k = "rule") : (opOk (nw ws p) = false → res = .er p) ∧ (opOk (nw ws p) = true → ∃ rl, PL ws d (p + 1) [] rl ∧ (∀ q, rl = .er q → res = .er q) ∧
    ∀ f p', rl = .ok f p' → res = .ok (.node [.leaf "rule", .leaf (nw ws p), .node ((ordP f).map pairT)]) p') := by
  induction h using PB.casesOn with
  | ruleE h => exact ⟨fun _ => rfl, fun z => (by rw [h] at z; cases z)⟩
  | ruleL h h2 => exact ⟨fun z => (by rw [h] at z; cases z), fun _ => ⟨_, h2, fun q e => (by cases e; rfl), fun f p' e => (by cases e)⟩⟩
  | rule h h2 => exact ⟨fun z => (by rw [h] at z; cases z), fun _ => ⟨_, h2, fun q e => (by cases e), fun f p' e => (by cases e; rfl)⟩⟩
  | _ => exact absurd hk (by decide)
theorem PB_turn (h : PB ws k d p res) (hk : k = "turn") : ∃ r, PP ws d p r ∧ res = r.wrap fun t => .node [.leaf "turn", t] := by
  induction h using PB.casesOn with
  | turn h => exact ⟨_, h, rfl⟩
  | _ => exact absurd hk (by decide)
theorem PB_join (h : PB ws k d p res) (hk : k = "join") : ∃ r, PP ws d p r ∧ (∀ q, r = .er q → res = .er q) ∧ ∀ t p1, r = .ok t p1 → ∃ r2, PP ws d p1 r2 ∧ (∀ q, r2 = .er q → res = .er q) ∧
    ∀ t2 p2, r2 = .ok t2 p2 → PJ ws d p2 (.node [.leaf "join", t, t2]) res := by
  induction h using PB.casesOn with
  | join1 h => exact ⟨_, h, fun q e => (by cases e; rfl), fun t p1 e => (by cases e)⟩
  | join2 h h2 => exact ⟨_, h, fun q e => (by cases e), fun t p1 e => (by cases e; exact ⟨_, h2, fun q e => (by cases e; rfl), fun t2 p2 e => (by cases e)⟩)⟩
  | join h h2 h3 => exact ⟨_, h, fun q e => (by cases e), fun t p1 e => (by cases e; exact ⟨_, h2, fun q e => (by cases e), fun t2 p2 e => (by cases e; exact h3)⟩)⟩
  | _ => exact absurd hk (by decide)
theorem PB_under (h : PB ws k d p res) (hk : k = "under") : (opOk (nw ws p) = false → res = .er p) ∧ (opOk (nw ws p) = true → ∃ rl, PPs ws d (p + 1) rl ∧ (∀ q, rl = .er q → res = .er q) ∧
    ∀ l p', rl = .ok (.node l) p' → res = .ok (.node [.leaf "under", .leaf (nw ws p), .node l]) p') := by
  induction h using PB.casesOn with
  | underE h => exact ⟨fun _ => rfl, fun z => (by rw [h] at z; cases z)⟩
  | underL h h2 => exact ⟨fun z => (by rw [h] at z; cases z), fun _ => ⟨_, h2, fun q e => (by cases e; rfl), fun f p' e => (by cases e)⟩⟩
  | under h h2 => exact ⟨fun z => (by rw [h] at z; cases z), fun _ => ⟨_, h2, fun q e => (by cases e), fun f p' e => (by cases e; rfl)⟩⟩
  | _ => exact absurd hk (by decide)
theorem PJ_end {acc : Tr} (h : PJ ws d p acc res) (hp : nw ws p = ")") : res = .ok acc p := by
  induction h using PJ.casesOn with
  | nil => rfl
  | er q => exact absurd hp q
  | cons q => exact absurd hp q
theorem PJ_in {acc : Tr} (h : PJ ws d p acc res) (hp : nw ws p ≠ ")") : ∃ r, PP ws d p r ∧ (∀ q, r = .er q → res = .er q) ∧ ∀ t p1, r = .ok t p1 → PJ ws d p1 (.node [.leaf "join", acc, t]) res := by
  induction h using PJ.casesOn with
  | nil q => exact absurd q hp
  | er _ h => exact ⟨_, h, fun q e => (by cases e; rfl), fun t p1 e => (by cases e)⟩
  | cons _ h h2 => exact ⟨_, h, fun q e => (by cases e), fun t p1 e => (by cases e; exact h2)⟩
theorem PPs_end (h : PPs ws d p res) (hp : nw ws p = ")") : res = .ok (.node []) p := by
  induction h using PPs.casesOn with
  | nil => rfl
  | e1 q => exact absurd hp q
  | e2 q => exact absurd hp q
  | cons q => exact absurd hp q
theorem PPs_in (h : PPs ws d p res) (hp : nw ws p ≠ ")") : ∃ resT, PP ws d p resT ∧ (∀ q, resT = .er q → res = .er q) ∧ ∀ t p', resT = .ok t p' → ∃ resL, PPs ws d p' resL ∧
    (∀ q, resL = .er q → res = .er q) ∧ ∀ l p2, resL = .ok (.node l) p2 → res = .ok (.node (t :: l)) p2 := by
  induction h using PPs.casesOn with
  | nil q => exact absurd q hp
  | e1 _ h => exact ⟨_, h, fun q e => (by cases e; rfl), fun t p' e => (by cases e)⟩
  | e2 _ h1 h2 => exact ⟨_, h1, fun q e => (by cases e), fun t p' e => (by cases e; exact ⟨_, h2, fun q e => (by cases e; rfl), fun l p2 e => (by cases e)⟩)⟩
  | cons _ h1 h2 => exact ⟨_, h1, fun q e => (by cases e), fun t p' e => (by cases e; exact ⟨_, h2, fun q e => (by cases e), fun l p2 e => (by cases e; rfl)⟩)⟩
theorem PPs_le (h : PPs ws d p res) : ∀ t p', res = .ok t p' → p ≤ p' ∧ ∃ l, t = .node l := by
  induction h using PPs.casesOn with
  | nil => intro t p' e; cases e; exact ⟨Nat.le_refl _, _, rfl⟩
  | e1 => intro t p' e; cases e
  | e2 => intro t p' e; cases e
  | cons _ h1 h2 =>
    intro t p' e; cases e
    have := PP_lt h1 _ _ rfl
    refine ⟨?_, _, rfl⟩
    have key : ∀ {d p : Nat} {res : Res}, PPs ws d p res → ∀ t p', res = .ok t p' → p ≤ p' := by
      intro d p res h
      refine PPs.rec (motive_1 := fun _ _ _ _ => True) (motive_2 := fun _ _ _ _ _ => True) (motive_3 := fun _ _ _ _ _ => True) (motive_4 := fun d p res _ => ∀ t p', res = .ok t p' → p ≤ p')
        ?_ ?_ ?_ ?_ ?_ ?_ ?_ ?_ ?_ ?_ ?_ ?_ ?_ ?_ ?_ ?_ ?_ ?_ ?_ ?_ ?_ ?_ ?_ ?_ ?_ ?_ h
      all_goals try (intros; trivial)
      · intro _ _ _ t p' e; cases e; lia
      · intro _ _ _ _ _ _ _ h _ _ i2 t p' e; cases e; have := i2 _ _ rfl; have := PP_lt h _ _ rfl; lia
    have := key h2 _ _ rfl
    lia
end
end Mine
end

section
open PySem PySem.W PyProof.Rows PySem.Calls PySem.Spec
set_option autoImplicit false
namespace Mine
theorem warmrg (w : World) (h : Heap) : (hd.heap_39 w.params).In h → PySem.Challenge.rw_rh0003_01.prog = PySem.Challenge.rw_rh0003_01.prog := by
  k_fill
  intro _
  rfl
noncomputable def CP (W : Wd) (ws : List (Str × Int)) (x dx : Addr) (r : RK) (k : Nat) (f : Addr) (d p : Nat) (res : Res) : Prop :=
  ∀ (G : Heap) (s : Shared) (A : Around) (fs : List Env) (n : Nat) (E Q : Value → Shared → Prop), Hs W G s → G.FunFrames {} fs → Cx A fs n → 3 * (40 - d) + k ≤ n → Rdr G x dx r ws → G.get? dx = none →
    (∃ o, s.heap.get? dx = some o ∧ isR r p d o) → p < ws.length →
    (∀ t p', res = .ok t p' → ∀ s' v, Hs W (hid s.heap [dx]) s' → (∃ o, s'.heap.get? dx = some o ∧ isR r p' d o) → Rep s'.heap v t → p' < ws.length → Q v s') →
    (∀ q, res = .er q → ∀ e s', Out W s.heap fs [dx] e (ns ws q) (some .none) s' → E (.ref e) s') → wpAny (model pw W.w) A (call (.ref f) [.ref x]) Q E s
noncomputable def CL (W : Wd) (ws : List (Str × Int)) (x dx : Addr) (r : RK) (d p : Nat) (res : ResL) : Prop :=
  ∀ (G : Heap) (s : Shared) (A : Around) (fs : List Env) (n : Nat) (E Q : Value → Shared → Prop), Hs W G s → G.FunFrames {} fs → Cx A fs n → 3 * (40 - d) + 11 ≤ n → Rdr G x dx r ws → G.get? dx = none →
    (∃ o, s.heap.get? dx = some o ∧ isR r p d o) → p < ws.length →
    (∀ f p', res = .ok f p' → ∀ s' v, Hs W (hid s.heap [dx]) s' → (∃ o, s'.heap.get? dx = some o ∧ isR r p' d o) → Rep s'.heap v (.node ((ordP f).map pairT)) → p' < ws.length → Q v s') →
    (∀ q, res = .er q → ∀ e s', Out W s.heap fs [dx] e (ns ws q) (some .none) s' → E (.ref e) s') → wpAny (model pw W.w) A (call (.ref 241) [.ref x]) Q E s

section
variable {W : Wd} {G : Heap} {L : Addr} {m : List (Str × Value)} {news pre post : List (Addr × (Obj → Prop))} {s : Shared} {A : Around} {E : Value → Shared → Prop} {env : Env} {v : Value} {pos : Pos}
  {Q : Value → Shared → Prop} {x dx : Addr} {r : RK} {ws : List (Str × Int)} {p d : Nat} {fs : List Env} {n : Nat} {res : Res}
theorem t_eq {o c y : Str} {t : Tok} {p1 p2 p3 : Pos} {k : Nat} {qn : Str} {sc : Scope} {fa : Addr} {cd : Value} {whole : Sem Value} {Q : Bool → Shared → Prop} (D : Led W G L m news s) (hv : lk m o = some (.str y t)) (h : ∀ s', Led W G L m news s' → Q (y == c) s')
    (hk : sc.kind = .function := by rfl) (hl : (envOf qn sc L fa cd).kindOf o = some .local := by rfl) (hd : (o == ("__debug__" : Str)) = false := by decide) :
    wpAny (model pw W.w) A (isTrue (.Compare (.Name o p1) [.Eq] [.Constant (.str c) k p2] p3) (envOf qn sc L fa cd) whole) Q E s :=
  wpAny_isTrue_Compare1 (n_loc D hv (e_str D fun s' t' D' => eq_str (wpAny_truthy_bool (h _ D'))) hk hl hd)
theorem R1 (o : Obj) (q : Addr × (Obj → Prop)) (hq : q ∈ [(dx, isR r p d)]) (ho : q.2 o) : notTup o := by rw [List.mem_singleton.mp hq] at ho; exact isR_nt o ho

/-- what a call gave stands from now on -/
theorem Led.took {p' d' : Nat} {s' : Shared} {v : Value} {t : Tr} (D : Led W G L m [(dx, isR r p d)] s) (H : Hs W (hid s.heap [dx]) s') (h : ∃ o, s'.heap.get? dx = some o ∧ isR r p' d' o) (hv : Rep s'.heap v t) :
    ∃ G', Led W G' L m [(dx, isR r p' d')] s' ∧ G.StaysIn G' ∧ Rep G' v t := by
  have D' := D.back1 (pre := []) H h
  exact ⟨_, D'.anew.1, D'.anew.2, D'.rep (fun q hq o ho => R1 o q hq ho) hv⟩
theorem t_made {vs : List Value} {l : List Tr} (D : Led W G L m [(dx, isR r p d)] s) (rs : Reps G vs l) (hz : vs.length ≤ sizeLine) (h : ∀ a s' G', Led W G' L m [(dx, isR r p d)] s' → G.StaysIn G' → Rep G' (.ref a) (.node l) → Q (.ref a) s') :
    wpAny (model pw W.w) A (newTuple vs) Q E s := by
  refine t_new D hz fun a s' D' => ?_
  obtain ⟨_, ha, rfl⟩ := D'.get (.head _)
  have rp : Rep s'.heap (.ref a) (.node l) := .node ha (rs.mono D'.hs.keep)
  have D₂ := D'.less (List.sublist_cons_self _ _)
  exact h a s' _ D₂.anew.1 D₂.anew.2 (D₂.rep (fun q hq o ho => R1 o q hq ho) rp)

theorem paper_tail {s₀ : Shared} {G₁ : Heap} {p1 p2 p3 p4 p5 p6 : Pos} {qn : Str} {sc : Scope} {fa : Addr} {cd : Value} {pl : Sem Bool} {p' : Nat} {t : Tr} (he : Ends ws) (c : Cx A fs (n + 6)) (R : Rdr (hid s₀.heap [dx]) x dx r ws) (ff' : (hid s₀.heap [dx]).FunFrames {} fs)
    (hs' : Hs W (hid s₀.heap [dx]) s₀) (hL : s₀.heap.get? L = none) (D : Led W G₁ L m [(dx, isR r p' (d + 1))] s) (hf : lk m "found" = some v) (hself : lk m "self" = some (.ref x)) (rv : Rep G₁ v t) (g₁ : (hid s₀.heap [dx]).StaysIn G₁) (hp' : p' < ws.length)
    (h1 : nw ws p' ≠ ")" → res = .er p') (h2 : nw ws p' = ")" → res = .ok t (p' + 1))
    (k : ∀ t p', res = .ok t p' → ∀ s' v, Hs W (hid s₀.heap [dx]) s' → (∃ o, s'.heap.get? dx = some o ∧ isR r p' d o) → Rep s'.heap v t → p' < ws.length → Q v s')
    (hE : ∀ q, res = .er q → ∀ e s', Out W s₀.heap fs [dx] e (ns ws q) (some .none) s' → E (.ref e) s')
    (hk : sc.kind = .function := by rfl) (hl1 : (envOf qn sc L fa cd).kindOf "self" = some .local := by rfl) (hl2 : (envOf qn sc L fa cd).kindOf "found" = some .local := by rfl)
    (he' : eval (.Call (.Attribute (.Name "self" p1) "close" p2) [] [] p3) (envOf qn sc L fa cd) = (do let ov ← eval (.Name "self" p1) (envOf qn sc L fa cd); standAt p2.atName; let (f, first) ← holding [ov] (getMethod ov "close" pl); callWith p3 f first (backTo p3 (starEach [] (envOf qn sc L fa cd))) []) := by with_unfolding_all rfl)
    (hw' : swapsWith (.Call (.Attribute (.Name "self" p1) "close" p2) [] [] p3) none p4.line (envOf qn sc L fa cd) = pure false := by rfl) (hi' : interactive (envOf qn sc L fa cd) = false := by rfl) :
    wpAny (model pw W.w) (A.deeper (envOf qn sc L fa cd)) (execs [.Expr (.Call (.Attribute (.Name "self" p1) "close" p2) [] [] p3) p4, .Return (some (.Name "found" p5)) p6] (envOf qn sc L fa cd)) (RetQ Q) (LeaveE W (A.deeper (envOf qn sc L fa cd)) (envOf qn sc L fa cd) E) s := by
  have R₁ := R.mono g₁
  have f₁ := ffs ff' g₁
  refine x_expr (r_call0 D hself R₁.inst (D.get (.head _)) rf_close i208 k208 ?_ (fun _ _ => rfl) hk hl1 (by decide) he') hi' hw'
  refine c_close (n := n) D.sH (D.sF (env := envOf qn sc L fa cd) f₁ rfl hk) (c.deep _) (R₁.mono D.sG) sN (D.get (.head _)) hp' (fun hok s₂ H₂ h₂ => ?_) fun hno e s₂ X => ?_
  · have D₂ := D.back1 (pre := []) H₂ h₂
    refine x_ret (n_loc D₂ hf ?_ hk hl2 (by decide))
    have D₃ := D₂.lo g₁ hs'.top
    exact ret_v (k _ _ (h2 hok) _ _ D₃.hs (D₃.get (.head _)) (rv.mono D₂.hs.keep) (he _ hp' (by rw [hok]; decide)))
  · exact lvx c (D.lo g₁ hs'.top) hL rfl ff' X (.inr (.inl rfl)) fun s₃ X₃ => hE _ (h1 hno) _ _ X₃

inductive PaperI (W : Wd) (s : Shared) (L x dx : Addr) (r : RK) (ws : List (Str × Int)) (d p : Nat) (t₅ : Tok) (resB : Res) (n' : Nat) (s' : Shared) : Prop
  | mk (p1 : Nat) (acc : Tr) (v : Value) (m' : List (Str × Value)) (G₁ : Heap) (_ : n' = ws.length - p1) (_ : p < p1) (_ : p1 < ws.length) (_ : Led W G₁ L m' [(dx, isR r p1 (d + 1))] s') (_ : lk m' "found" = some v) (_ : lk m' "kind" = some (.str (nw ws (p + 1)) t₅)) (_ : lk m' "self" = some (.ref x)) (_ : Rep G₁ v acc) (_ : (hid s.heap [dx]).StaysIn G₁) (_ : PJ ws (d + 1) p1 acc resB) : PaperI W s L x dx r ws d p t₅ resB n' s'
theorem c_paper1 (he : Ends ws) (hPl : ∀ d p rl, PL ws d p [] rl → CL W ws x dx r d p rl) (d p : Nat) (res : Res) (h : PP ws d p res)
    (ihP : ∀ d p' res, p < p' → PP ws d p' res → CP W ws x dx r 12 255 d p' res) (ihL : ∀ d p' res, p < p' → PPs ws d p' res → CP W ws x dx r 13 248 d p' res) : CP W ws x dx r 12 255 d p res := by
  intro G s A fs n E Q hs ff c hn R hG hdx hw k hE
  obtain ⟨hs', st'⟩ := mv_dx hs hG
  have R := R.mono st'
  have ff' := ffs ff st'
  obtain ⟨n, rfl⟩ : ∃ n', n = n' + 6 := ⟨n - 6, by omega⟩
  refine enterC [("self", .ref x)] (news := [(dx, isR r p d)]) hs' (fun q hq => by rw [List.mem_singleton.mp hq]; exact ⟨hdx, hid_none (.head _)⟩) (by simp) (by k_is) (by k_is) c.room rfl rfl rfl rfl rfl (by decide) fun L s₁ D stk hL => ?_
  refine hide fun Qe Ee hQe hEe => ?_
  refine x_expr (r_call0 D lk_hd R.inst (D.get (.head _)) rf_begin i201 k201 ?_)
  by_cases hp : nw ws p = "("
  rotate_left
  · refine c_begin (n := n) D.sH (D.sF ff') (c.deep _) (R.mono D.sG) sN (D.get (.head _)) hw (fun z => absurd z hp) (fun z => absurd z hp) fun _ e s₂ X => ?_
    subst hEe; exact lvx c D hL rfl ff' X (.inr (.inl rfl)) fun s₃ X₃ => hE _ (PP_no h hp) _ _ X₃
  have hd40 := PP_open h hp
  have hw1 : p + 1 < ws.length := he p hw (by rw [hp]; decide)
  refine c_begin (n := n) D.sH (D.sF ff') (c.deep _) (R.mono D.sG) sN (D.get (.head _)) hw (fun _ => hd40) (fun _ s₂ H₂ h₂ => ?_) fun hno => absurd hp hno
  have D₂ := D.back1 (pre := []) H₂ h₂
  refine x_asg (r_call0 D₂ lk_hd R.inst (D₂.get (.head _)) rf_spot i173 k173 ?_)
  refine c_spot D₂.hs R (D₂.get (.head _)) hw1 (c.deep _).room fun s₃ t₃ H₃ => ?_
  refine s_loc (D₂.back0 H₃) fun s₄ D₄ => ?_
  refine x_asg (r_call0 D₄ (lk_tl lk_hd) R.inst (D₄.get (.head _)) rf_op i194 k194 ?_)
  refine c_op (n := n + 1) D₄.sH (D₄.sF ff') (c.deep _) (R.mono D₄.sG) sN (D₄.get (.head _)) hw1 (fun hok s₅ t₅ H₅ h₅ => ?_) fun hno e s₅ X => ?_
  rotate_left
  · subst hEe; exact lvx c D₄ hL rfl ff' X (.inr (.inl rfl)) fun s₆ X₆ => hE _ (PP_noop h hp hno) _ _ X₆
  refine s_loc (D₄.back1 (pre := []) H₅ h₅) fun s₆ D₆ => ?_
  have hw2 : p + 1 + 1 < ws.length := he _ hw1 (opOk_ne hok)
  have hin := PP_in h hp hok
  have bt : ∀ {a b : Str}, a = b → (a == b) = true := fun h => by simpa using h
  have bf : ∀ {a b : Str}, a ≠ b → (a == b) = false := fun h => by simpa using h
  refine x_if (t_eq D₆ lk_hd fun s₇ D₇ => ?_)
  by_cases h1 : nw ws (p + 1) = "same"
  · rw [bt h1, if_pos rfl]
    obtain ⟨resB, hB, hBe, hBo⟩ := hin (by rw [h1]; decide)
    obtain ⟨rT, hT, rfl⟩ := PB_same hB h1
    refine x_asg (Tuple_ (spliced_more (n_loc D₇ lk_hd (spliced_more (r_call0 D₇ (lk_tl (lk_tl lk_hd)) R.inst (D₇.get (.head _)) rf_term i222 k222 ?_)))))
    refine c_term he _ (d + 1) (p + 2) rT (Nat.le_refl _) hT _ _ _ _ (n + 5) _ _ D₇.sH (D₇.sF ff') (c.deep _) (by omega) (R.mono D₇.sG) sN (D₇.get (.head _)) hw2 (fun t p' hr s₈ v H₈ h₈ hv hp' => ?_) fun q hq e s₈ X => ?_
    · obtain ⟨G₈, D₈, g₈, rv⟩ := D₇.took H₈ h₈ hv
      refine spliced_none (t_made D₈ (.cons .leaf (.cons rv .nil)) (by size_fits) fun a s₉ G₉ D₉ g₉ ra => s_loc D₉ fun s₁₀ D₁₀ => ?_)
      refine x_nil (seq_next ?_)
      rw [h1] at ra
      have ho := hBo _ _ (wrap_k hr)
      subst hQe hEe; exact paper_tail he c R ff' hs' hL D₁₀ lk_hd (lk_tl (lk_tl (lk_tl lk_hd))) ra (fun b o z => g₉ b o (g₈ b o z)) hp' ho.1 ho.2 k hE
    · subst hEe; exact lvx c D₇ hL rfl ff' X (.inr (.inl rfl)) fun s₉ X₉ => hE _ (hBe _ (wrap_er hq)) _ _ X₉
  rw [bf h1, if_neg (by decide)]
  refine x_if (t_eq D₇ lk_hd fun s₈ D₈ => ?_)
  by_cases h2 : nw ws (p + 1) = "told"
  · rw [bt h2, if_pos rfl]
    obtain ⟨resB, hB, hBe, hBo⟩ := hin (by rw [h2]; decide)
    have hT := PB_told hB h2
    refine x_asg (Tuple_ (spliced_more (n_loc D₈ lk_hd (spliced_more (r_call0 D₈ (lk_tl (lk_tl lk_hd)) R.inst (D₈.get (.head _)) rf_op i194 k194 ?_)))))
    refine c_op (n := n + 1) D₈.sH (D₈.sF ff') (c.deep _) (R.mono D₈.sG) sN (D₈.get (.head _)) hw2 (fun hok2 s₉ t₉ H₉ h₉ => ?_) fun hno e s₉ X => ?_
    · have D₉ := D₈.back1 (pre := []) H₉ h₉
      refine spliced_none (t_made D₉ (.cons .leaf (.cons .leaf .nil)) (by size_fits) fun a s₁₀ G₁₀ D₁₀ g₁₀ ra => s_loc D₁₀ fun s₁₁ D₁₁ => ?_)
      refine x_nil (seq_next (x_nil (seq_next ?_)))
      rw [h2] at ra
      have ho := hBo _ _ (hT.1 hok2)
      subst hQe hEe; exact paper_tail he c R ff' hs' hL D₁₁ lk_hd (lk_tl (lk_tl (lk_tl lk_hd))) ra g₁₀ (he _ hw2 (opOk_ne hok2)) ho.1 ho.2 k hE
    · subst hEe; exact lvx c D₈ hL rfl ff' X (.inr (.inl rfl)) fun s₁₀ X₁₀ => hE _ (hBe _ (hT.2 hno)) _ _ X₁₀
  rw [bf h2, if_neg (by decide)]
  refine x_if (t_eq D₈ lk_hd fun s₉ D₉ => ?_)
  by_cases h3 : nw ws (p + 1) = "rule"
  · rw [bt h3, if_pos rfl]
    obtain ⟨resB, hB, hBe, hBo⟩ := hin (by rw [h3]; decide)
    have hT := PB_rule hB h3
    refine x_asg (Tuple_ (spliced_more (n_loc D₉ lk_hd (spliced_more (r_call0 D₉ (lk_tl (lk_tl lk_hd)) R.inst (D₉.get (.head _)) rf_op i194 k194 ?_)))))
    refine c_op (n := n + 1) D₉.sH (D₉.sF ff') (c.deep _) (R.mono D₉.sG) sN (D₉.get (.head _)) hw2 (fun hok2 s₁₀ t₁₀ H₁₀ h₁₀ => ?_) fun hno e s₁₀ X => ?_
    rotate_left
    · subst hEe; exact lvx c D₉ hL rfl ff' X (.inr (.inl rfl)) fun s₁₁ X₁₁ => hE _ (hBe _ (hT.1 hno)) _ _ X₁₁
    have D₁₀ := D₉.back1 (pre := []) H₁₀ h₁₀
    obtain ⟨rl, hl, hle, hlo⟩ := hT.2 hok2
    refine spliced_more (r_call0 D₁₀ (lk_tl (lk_tl lk_hd)) R.inst (D₁₀.get (.head _)) rf_places i241 k241 ?_)
    refine hPl (d + 1) (p + 2 + 1) rl hl _ _ _ _ (n + 5) _ _ D₁₀.sH (D₁₀.sF ff') (c.deep _) (by omega) (R.mono D₁₀.sG) sN (D₁₀.get (.head _)) (he _ hw2 (opOk_ne hok2)) (fun f p' hr s₁₁ v H₁₁ h₁₁ hv hp' => ?_) fun q hq e s₁₁ X => ?_
    · obtain ⟨G₁₁, D₁₁, g₁₁, rv⟩ := D₁₀.took H₁₁ h₁₁ hv
      refine spliced_none (t_made D₁₁ (.cons .leaf (.cons .leaf (.cons rv .nil))) (by size_fits) fun a s₁₂ G₁₂ D₁₂ g₁₂ ra => s_loc D₁₂ fun s₁₃ D₁₃ => ?_)
      refine x_nil (seq_next (x_nil (seq_next (x_nil (seq_next ?_)))))
      rw [h3] at ra
      have ho := hBo _ _ (hlo f p' hr)
      subst hQe hEe; exact paper_tail he c R ff' hs' hL D₁₃ lk_hd (lk_tl (lk_tl (lk_tl lk_hd))) ra (fun b o z => g₁₂ b o (g₁₁ b o z)) hp' ho.1 ho.2 k hE
    · subst hEe; exact lvx c D₁₀ hL rfl ff' X (.inr (.inl rfl)) fun s₁₂ X₁₂ => hE _ (hBe _ (hle _ hq)) _ _ X₁₂
  rw [bf h3, if_neg (by decide)]
  refine x_if (t_eq D₉ lk_hd fun s₁₀ D₁₀ => ?_)
  by_cases h4 : nw ws (p + 1) = "turn"
  · rw [bt h4, if_pos rfl]
    obtain ⟨resB, hB, hBe, hBo⟩ := hin (by rw [h4]; decide)
    obtain ⟨rT, hT, rfl⟩ := PB_turn hB h4
    refine x_asg (Tuple_ (spliced_more (n_loc D₁₀ lk_hd (spliced_more (r_call0 D₁₀ (lk_tl (lk_tl lk_hd)) R.inst (D₁₀.get (.head _)) rf_paper i255 k255 ?_)))))
    refine ihP (d + 1) (p + 2) rT (by omega) hT _ _ _ _ (n + 5) _ _ D₁₀.sH (D₁₀.sF ff') (c.deep _) (by omega) (R.mono D₁₀.sG) sN (D₁₀.get (.head _)) hw2 (fun t p' hr s₁₁ v H₁₁ h₁₁ hv hp' => ?_) fun q hq e s₁₁ X => ?_
    · obtain ⟨G₁₁, D₁₁, g₁₁, rv⟩ := D₁₀.took H₁₁ h₁₁ hv
      refine spliced_none (t_made D₁₁ (.cons .leaf (.cons rv .nil)) (by size_fits) fun a s₁₂ G₁₂ D₁₂ g₁₂ ra => s_loc D₁₂ fun s₁₃ D₁₃ => ?_)
      refine x_nil (seq_next (x_nil (seq_next (x_nil (seq_next (x_nil (seq_next ?_)))))))
      rw [h4] at ra
      have ho := hBo _ _ (wrap_k hr)
      subst hQe hEe; exact paper_tail he c R ff' hs' hL D₁₃ lk_hd (lk_tl (lk_tl (lk_tl lk_hd))) ra (fun b o z => g₁₂ b o (g₁₁ b o z)) hp' ho.1 ho.2 k hE
    · subst hEe; exact lvx c D₁₀ hL rfl ff' X (.inr (.inl rfl)) fun s₁₂ X₁₂ => hE _ (hBe _ (wrap_er hq)) _ _ X₁₂
  rw [bf h4, if_neg (by decide)]
  refine x_if (t_eq D₁₀ lk_hd fun s₁₁ D₁₁ => ?_)
  by_cases h5 : nw ws (p + 1) = "join"
  · rw [bt h5, if_pos rfl]
    obtain ⟨resB, hB, hBe, hBo⟩ := hin (by rw [h5]; decide)
    obtain ⟨rA, hA, hAe, hAo⟩ := PB_join hB h5
    refine x_asg (Tuple_ (spliced_more (n_loc D₁₁ lk_hd (spliced_more (r_call0 D₁₁ (lk_tl (lk_tl lk_hd)) R.inst (D₁₁.get (.head _)) rf_paper i255 k255 ?_)))))
    refine ihP (d + 1) (p + 2) rA (by omega) hA _ _ _ _ (n + 5) _ _ D₁₁.sH (D₁₁.sF ff') (c.deep _) (by omega) (R.mono D₁₁.sG) sN (D₁₁.get (.head _)) hw2 (fun t p' hr s₁₂ v H₁₂ h₁₂ hv hp' => ?_) fun q hq e s₁₂ X => ?_
    rotate_left
    · subst hEe; exact lvx c D₁₁ hL rfl ff' X (.inr (.inl rfl)) fun s₁₃ X₁₃ => hE _ (hBe _ (hAe _ hq)) _ _ X₁₃
    obtain ⟨G₁₂, D₁₂, g₁₂, rv⟩ := D₁₁.took H₁₂ h₁₂ hv
    obtain ⟨rC, hC, hCe, hCo⟩ := hAo t p' hr
    have R₁₂ := R.mono g₁₂
    have hlt := PP_lt hA _ _ hr
    refine spliced_more (r_call0 D₁₂ (lk_tl (lk_tl lk_hd)) R₁₂.inst (D₁₂.get (.head _)) rf_paper i255 k255 ?_)
    refine ihP (d + 1) p' rC (by omega) hC _ _ _ _ (n + 5) _ _ D₁₂.sH (D₁₂.sF (ffs ff' g₁₂)) (c.deep _) (by omega) (R₁₂.mono D₁₂.sG) sN (D₁₂.get (.head _)) hp' (fun t2 p2 hr2 s₁₃ v2 H₁₃ h₁₃ hv2 hp2 => ?_) fun q hq e s₁₃ X => ?_
    rotate_left
    · subst hEe; exact lvx c (D₁₂.lo g₁₂ hs'.top) hL rfl ff' X (.inr (.inl rfl)) fun s₁₄ X₁₄ => hE _ (hBe _ (hCe _ hq)) _ _ X₁₄
    obtain ⟨G₁₃, D₁₃, g₁₃, rv2⟩ := D₁₂.took H₁₃ h₁₃ hv2
    have hJ := hCo t2 p2 hr2
    have hlt2 := PP_lt hC _ _ hr2
    refine spliced_none (t_made D₁₃ (.cons .leaf (.cons (rv.mono g₁₃) (.cons rv2 .nil))) (by size_fits) fun a s₁₄ G₁₄ D₁₄ g₁₄ ra => s_loc D₁₄ fun s₁₅ D₁₅ => ?_)
    rw [h5] at ra
    refine x_whileH (PaperI W s L x dx r ws d p t₅ resB) (ws.length - p2) ?_ ?_
    · exact ⟨p2, _, _, _, _, rfl, by omega, hp2, D₁₅, lk_hd, lk_tl lk_hd, lk_tl (lk_tl (lk_tl lk_hd)), ra, fun b o z => g₁₄ b o (g₁₃ b o (g₁₂ b o z)), hJ⟩
    · rintro Q₁ E₁ B₁ T₁ hQ₁ hE₁ hB₁ hT₁ n' s₁₆ ⟨p1, acc, v, m', G₁, rfl, hp1, hp1w, D₁₆, l1, l2, l3, ra, g₁, hJ⟩
      have R₁ := R.mono g₁
      have f₁ := ffs ff' g₁
      refine wpAny_isTrue_Compare1 (r_call0 D₁₆ l3 R₁.inst (D₁₆.get (.head _)) rf_word ri_word k166 ?_)
      refine c_word D₁₆.hs R₁ (D₁₆.get (.head _)) (nw_at hp1w) (c.deep _).room fun s₁₇ t₁₇ H₁₇ => ?_
      refine e_str (D₁₆.back0 H₁₇) fun s₁₈ t₁₈ D₁₈ => ne_str (wpAny_truthy_bool ?_)
      by_cases hq : nw ws p1 = ")"
      · first | refine if_no (show (nw ws p1 != Str.ofString ")") = false from (by simpa using hq)) ?_ | rw [show (nw ws p1 != Str.ofString ")") = false from by simpa using hq, if_neg (by decide)]
        subst hQ₁ hE₁
        refine x_nil (seq_next (x_nil (seq_next (x_nil (seq_next (x_nil (seq_next (x_nil (seq_next ?_)))))))))
        have ho := hBo _ _ (PJ_end hJ hq)
        subst hQe hEe; exact paper_tail he c R ff' hs' hL D₁₈ l1 l3 ra g₁ hp1w ho.1 ho.2 k hE
      · first | refine if_yes (show (nw ws p1 != Str.ofString ")") = true from (by simpa using hq)) ?_ | rw [show (nw ws p1 != Str.ofString ")") = true from by simpa using hq, if_pos rfl]
        obtain ⟨rN, hN, hNe, hNo⟩ := PJ_in hJ hq
        refine x_asg (Tuple_ (spliced_more (n_loc D₁₈ l2 (spliced_more (n_loc D₁₈ l1 (spliced_more (r_call0 D₁₈ l3 R₁.inst (D₁₈.get (.head _)) rf_paper i255 k255 ?_)))))))
        refine ihP (d + 1) p1 rN hp1 hN _ _ _ _ (n + 5) _ _ D₁₈.sH (D₁₈.sF f₁) (c.deep _) (by omega) (R₁.mono D₁₈.sG) sN (D₁₈.get (.head _)) hp1w (fun t3 p3 hr3 s₁₉ v3 H₁₉ h₁₉ hv3 hp3 => ?_) fun q hq e s₁₉ X => ?_
        · obtain ⟨G₁₉, D₁₉, g₁₉, rv3⟩ := D₁₈.took H₁₉ h₁₉ hv3
          have hlt3 := PP_lt hN _ _ hr3
          refine spliced_none (t_made D₁₉ (.cons .leaf (.cons (ra.mono g₁₉) (.cons rv3 .nil))) (by size_fits) fun a s₂₀ G₂₀ D₂₀ g₂₀ ra' => s_loc D₂₀ fun s₂₁ D₂₁ => x_nil ?_)
          rw [h5] at ra'
          subst hB₁
          exact ⟨_, by omega, p3, _, _, _, _, rfl, by omega, hp3, D₂₁, lk_hd, lk_tl l2, lk_tl l3, ra', fun b o z => g₂₀ b o (g₁₉ b o (g₁ b o z)), hNo _ _ hr3⟩
        · subst hT₁ hE₁
          refine tn c rfl X (.inr (.inl rfl)) fun s₂₀ X₂₀ => ?_
          subst hEe; exact lvx c (D₁₈.lo g₁ hs'.top) hL rfl ff' X₂₀ (.inr (.inr rfl)) fun s₂₁ X₂₁ => hE _ (hBe _ (hNe _ hq)) _ _ X₂₁
  rw [bf h5, if_neg (by decide)]
  refine x_if (t_eq D₁₁ lk_hd fun s₁₂ D₁₂ => ?_)
  by_cases h6 : nw ws (p + 1) = "under"
  · rw [bt h6, if_pos rfl]
    obtain ⟨resB, hB, hBe, hBo⟩ := hin (by rw [h6]; decide)
    have hT := PB_under hB h6
    refine x_asg (Tuple_ (spliced_more (n_loc D₁₂ lk_hd (spliced_more (r_call0 D₁₂ (lk_tl (lk_tl lk_hd)) R.inst (D₁₂.get (.head _)) rf_op i194 k194 ?_)))))
    refine c_op (n := n + 1) D₁₂.sH (D₁₂.sF ff') (c.deep _) (R.mono D₁₂.sG) sN (D₁₂.get (.head _)) hw2 (fun hok2 s₁₃ t₁₃ H₁₃ h₁₃ => ?_) fun hno e s₁₃ X => ?_
    rotate_left
    · subst hEe; exact lvx c D₁₂ hL rfl ff' X (.inr (.inl rfl)) fun s₁₄ X₁₄ => hE _ (hBe _ (hT.1 hno)) _ _ X₁₄
    have D₁₃ := D₁₂.back1 (pre := []) H₁₃ h₁₃
    obtain ⟨rl, hl, hle, hlo⟩ := hT.2 hok2
    refine spliced_more (r_call0 D₁₃ (lk_tl (lk_tl lk_hd)) R.inst (D₁₃.get (.head _)) rf_papers i248 k248 ?_)
    refine ihL (d + 1) (p + 2 + 1) rl (by omega) hl _ _ _ _ (n + 5) _ _ D₁₃.sH (D₁₃.sF ff') (c.deep _) (by omega) (R.mono D₁₃.sG) sN (D₁₃.get (.head _)) (he _ hw2 (opOk_ne hok2)) (fun t p' hr s₁₄ v H₁₄ h₁₄ hv hp' => ?_) fun q hq e s₁₄ X => ?_
    · obtain ⟨G₁₄, D₁₄, g₁₄, rv⟩ := D₁₃.took H₁₄ h₁₄ hv
      refine spliced_none (t_made D₁₄ (.cons .leaf (.cons .leaf (.cons rv .nil))) (by size_fits) fun a s₁₅ G₁₅ D₁₅ g₁₅ ra => s_loc D₁₅ fun s₁₆ D₁₆ => ?_)
      refine x_nil (seq_next (x_nil (seq_next (x_nil (seq_next (x_nil (seq_next (x_nil (seq_next (x_nil (seq_next ?_)))))))))))
      rw [h6] at ra
      obtain ⟨_, l, rfl⟩ := PPs_le hl _ _ hr
      have ho := hBo _ _ (hlo l p' hr)
      subst hQe hEe; exact paper_tail he c R ff' hs' hL D₁₆ lk_hd (lk_tl (lk_tl (lk_tl lk_hd))) ra (fun b o z => g₁₅ b o (g₁₄ b o z)) hp' ho.1 ho.2 k hE
    · subst hEe; exact lvx c D₁₃ hL rfl ff' X (.inr (.inl rfl)) fun s₁₅ X₁₅ => hE _ (hBe _ (hle _ hq)) _ _ X₁₅
  rw [bf h6, if_neg (by decide)]
  have hnk : nw ws (p + 1) ∉ kinds := by
    intro hm
    simp only [kinds, List.mem_cons, List.not_mem_nil, or_false] at hm
    rcases hm with z | z | z | z | z | z
    · exact h1 z
    · exact h2 z
    · exact h3 z
    · exact h4 z
    · exact h5 z
    · exact h6 z
  have hlen := (nw_ok R hw1).2
  refine x_fault (n := n) (c.less (by omega)) rfl D₁₂ rfl ff' (spliced_more (join2 (FormattedValue_plain (n_loc D₁₂ lk_hd (formatField_str (fun t' tk => ⟨_, _, rfl, Nat.le_trans hlen (by decide), _, _, _, _, D₁₂.tok _, fun s₁₃ z tz D₁₃ => ?_⟩) (by rw [sizeLine_eq]; exact Nat.le_trans hlen (by decide))))) (by decide)))
  refine spliced_more (n_loc D₁₃ (lk_tl lk_hd) (spliced_none ⟨_, _, _, _, rfl, D₁₃, fun s₁₄ e X => ?_⟩))
  subst hEe; exact lv c D₁₃ hL rfl ff' (fun q hq => by rw [List.mem_singleton.mp hq]; exact ⟨_, .head _, rfl⟩) (by intro b o h; cases h) X (.inl rfl) fun s₁₅ X₁₅ => hE _ (PP_nokind h hp hok hnk) _ _ X₁₅
end
end Mine
end

section
open PySem PySem.W PyProof.Rows PySem.Calls PySem.Spec
set_option autoImplicit false
namespace Mine
theorem warmrh (w : World) (h : Heap) : (hd.heap_39 w.params).In h → PySem.Challenge.rw_rh0003_01.prog = PySem.Challenge.rw_rh0003_01.prog := by
  k_fill
  intro _
  rfl
section
variable {W : Wd} {G : Heap} {L : Addr} {m : List (Str × Value)} {news pre post : List (Addr × (Obj → Prop))} {s : Shared} {A : Around} {E : Value → Shared → Prop} {env : Env} {v : Value} {pos : Pos}
  {Q : Value → Shared → Prop} {x dx : Addr} {r : RK} {ws : List (Str × Int)} {p d : Nat} {fs : List Env} {n : Nat} {res : Res}
inductive PapersI (W : Wd) (s : Shared) (L x dx fl : Addr) (r : RK) (ws : List (Str × Int)) (d p : Nat) (res : Res) (n' : Nat) (s' : Shared) : Prop
  | mk (p1 : Nat) (vals : List Value) (ts : List Tr) (resL : Res) (G₁ : Heap) (_ : n' = ws.length - p1) (_ : p ≤ p1) (_ : p1 < ws.length) (_ : Led W G₁ L [("found", .ref fl), ("self", .ref x)] [(dx, isR r p1 d), (fl, isL vals.toArray)] s') (_ : Reps G₁ vals ts) (_ : (hid s.heap [dx]).StaysIn G₁) (_ : vals.length ≤ p1) (_ : PPs ws d p1 resL) (_ : (∀ q, resL = .er q → res = .er q)) (_ : ∀ l p2, resL = .ok (.node l) p2 → res = .ok (.node (ts ++ l)) p2) : PapersI W s L x dx fl r ws d p res n' s'
theorem c_papers1 (he : Ends ws) (d p : Nat) (res : Res) (h : PPs ws d p res) (ihP : ∀ d p' res, p ≤ p' → PP ws d p' res → CP W ws x dx r 12 255 d p' res) : CP W ws x dx r 13 248 d p res := by
  intro G s A fs n E Q hs ff c hn R hG hdx hw k hE
  obtain ⟨hs', st'⟩ := mv_dx hs hG
  have R := R.mono st'
  have ff' := ffs ff st'
  obtain ⟨n, rfl⟩ : ∃ n', n = n' + 6 := ⟨n - 6, by lia⟩
  refine enterC [("self", .ref x)] (news := [(dx, isR r p d)]) hs' (fun q hq => by rw [List.mem_singleton.mp hq]; exact ⟨hdx, hid_none (.head _)⟩) (by simp) (by k_is) (by k_is) c.room rfl rfl rfl rfl rfl (by decide) fun L s₁ D stk hL => ?_
  refine hide fun Qe Ee hQe hEe => ?_
  refine x_asg (List_ (spliced_none (l_new D (by size_fits) fun fl s₂ D₂ => s_loc D₂ fun s₃ D₃ => ?_)))
  have D₃ := D₃.perm (.swap _ _ _)
  refine x_whileH (PapersI W s L x dx fl r ws d p res) (ws.length - p) ?_ ?_
  · exact ⟨p, [], [], res, _, rfl, Nat.le_refl _, hw, D₃, .nil, fun _ _ z => z, Nat.zero_le _, h, fun _ z => z, fun _ _ z => z⟩
  · rintro Q₁ E₁ B₁ T₁ hQ₁ hE₁ hB₁ hT₁ n' s₉ ⟨p1, vals, ts, resL, G₁, rfl, hp1, hp1w, D₉, rs, g₁, hvl, hL1, hLe, hLo⟩
    have R₁ := R.mono g₁
    have f₁ := ffs ff' g₁
    have hsl := R.len
    refine wpAny_isTrue_Compare1 (r_call0 D₉ (lk_tl lk_hd) R₁.inst (D₉.get (.head _)) rf_word ri_word k166 ?_)
    refine c_word D₉.hs R₁ (D₉.get (.head _)) (nw_at hp1w) (c.deep _).room fun s₁₀ t₁₀ H₁₀ => ?_
    have D₁₀ := D₉.back0 H₁₀
    refine e_str D₁₀ fun s₁₁ t₁₁ D₁₁ => ne_str (wpAny_truthy_bool ?_)
    by_cases hq : nw ws p1 = ")"
    · first | refine if_no (show (nw ws p1 != Str.ofString ")") = false from (by simpa using hq)) ?_ | rw [show (nw ws p1 != Str.ofString ")") = false from by simpa using hq, if_neg (by decide)]
      refine x_ret (Call_ (n_blt D₁₁ (mg_none hs.st fmg_tuple) rfl (kb1 (spliced_more (n_loc D₁₁ lk_hd (spliced_none ?_))))))
      obtain ⟨_, hfl⟩ := isL_get (D₁₁.nw (fl, isL vals.toArray) (.tail _ (.head _))).1
      refine call_tuple_list (isList_of hfl) (fun h' k' => ?_) (by rw [sizeLine_eq, List.size_toArray]; lia)
      have D₁₃ := (D₁₁.kept (s' := { s₁₁ with heap := h' }) k').push (tupOf vals 0) (· = tupOf vals 0) rfl rfl
      have hr := hLo [] p1 (PPs_end hL1 hq)
      rw [List.append_nil] at hr
      obtain ⟨_, ha, rfl⟩ := D₁₃.get (.head _)
      have D₁₄ := D₁₃.lo g₁ hs'.top
      subst hQ₁
      subst hQe; exact ret_v (k _ _ hr _ _ D₁₄.hs (D₁₄.get (.tail _ (.head _))) (.node ha (rs.mono D₁₃.hs.keep)) hp1w)
    · first | refine if_yes (show (nw ws p1 != Str.ofString ")") = true from (by simpa using hq)) ?_ | rw [show (nw ws p1 != Str.ofString ")") = true from by simpa using hq, if_pos rfl]
      obtain ⟨resT', hT', hTe', hTo'⟩ := PPs_in hL1 hq
      refine x_append (pre := [(dx, isR r p1 d)]) D₁₁ lk_hd (r_call0 D₁₁ (lk_tl lk_hd) R₁.inst (D₁₁.get (.head _)) rf_paper i255 k255 ?_)
      refine ihP d p1 resT' hp1 hT' _ _ _ _ (n + 5) _ _ D₁₁.sH (D₁₁.sF f₁) (c.deep _) (by lia) (R₁.mono D₁₁.sG) sN (D₁₁.get (.head _)) hp1w (fun t2 p2 hr2 s₁₂ v2 H₁₂ h₁₂ hv2 hp2 => ?_) fun q hq2 e s₁₂ X => ?_
      · have D₁₂ := D₁₁.back1 (pre := []) H₁₂ h₁₂
        obtain ⟨E₁₂, g₁₂⟩ := D₁₂.anew
        have rv₁₂ := D₁₂.rep (fl_nt rfl) hv2
        obtain ⟨resL2, hL2, hLe2, hLo2⟩ := hTo' t2 p2 hr2
        have hlt := PP_lt hT' t2 p2 hr2
        refine ⟨_, _, [(dx, isR r p2 d)], [], vals.toArray, E₁₂, by rw [sizeLine_eq, List.size_toArray]; lia, fun s₁₃ D₁₃ => x_nil ?_⟩
        subst hB₁
        refine ⟨_, by lia, p2, vals ++ [v2], ts ++ [t2], resL2, _, rfl, by lia, hp2, by rw [← List.push_toArray]; exact D₁₃, (rs.mono g₁₂).snoc rv₁₂, fun b o z => g₁₂ b o (g₁ b o z), by rw [List.length_append]; show vals.length + 1 ≤ p2; lia, hL2, fun q e => hLe q (hLe2 q e), fun l p3 e => ?_⟩
        rw [hLo _ _ (hLo2 l p3 e), List.append_assoc]; rfl
      · subst hT₁ hE₁
        refine tn c rfl X (.inr (.inl rfl)) fun s₁₃ X₁₃ => ?_
        subst hEe; exact lvx c (D₁₁.lo g₁ hs'.top) hL rfl ff' X₁₃ (.inr (.inr rfl)) fun s₁₄ X₁₄ => hE _ (hLe _ (hTe' _ hq2)) _ _ X₁₄

theorem c_paper (he : Ends ws) (hPl : ∀ d p rl, PL ws d p [] rl → CL W ws x dx r d p rl) : ∀ (N d p : Nat), ws.length - p ≤ N → (∀ res, PP ws d p res → CP W ws x dx r 12 255 d p res) := by
  have triv : ∀ k f d p res, ¬ p < ws.length → CP W ws x dx r k f d p res := fun k f d p res h G s A fs n E Q _ _ _ _ _ _ _ hw => absurd hw h
  have main : ∀ N, (∀ d p res, ws.length - p ≤ N → PP ws d p res → CP W ws x dx r 12 255 d p res) ∧ (∀ d p res, ws.length - p ≤ N → PPs ws d p res → CP W ws x dx r 13 248 d p res) := by
    intro N
    induction N with
    | zero => exact ⟨fun d p res hN _ => triv _ _ _ _ _ (by lia), fun d p res hN _ => triv _ _ _ _ _ (by lia)⟩
    | succ N ih =>
      have h1 : ∀ d p res, ws.length - p ≤ N + 1 → PP ws d p res → CP W ws x dx r 12 255 d p res := fun d p res hN h =>
        c_paper1 he hPl d p res h (fun d p' res hlt h => by
          by_cases z : p' < ws.length
          · exact ih.1 _ _ _ (by lia) h
          · exact triv _ _ _ _ _ z) (fun d p' res hlt h => by
          by_cases z : p' < ws.length
          · exact ih.2 _ _ _ (by lia) h
          · exact triv _ _ _ _ _ z)
      exact ⟨h1, fun d p res hN h => c_papers1 he d p res h fun d p' res hle h => by
        by_cases z : p' < ws.length
        · exact h1 _ _ _ (by lia) h
        · exact triv _ _ _ _ _ z⟩
  exact fun N d p hN res h => (main N).1 d p res hN h
end
end Mine
end

section
open PySem PySem.W PyProof.Rows PySem.Calls PySem.Spec
set_option autoImplicit false
namespace Mine
theorem warmri (w : World) (h : Heap) : (hd.heap_39 w.params).In h → PySem.Challenge.rw_rh0003_01.prog = PySem.Challenge.rw_rh0003_01.prog := by
  k_fill
  intro _
  rfl
section
variable {W : Wd} {G : Heap} {L : Addr} {m : List (Str × Value)} {news pre post : List (Addr × (Obj → Prop))} {s : Shared} {A : Around} {E : Value → Shared → Prop} {env : Env} {v : Value} {pos : Pos}
  {Q : Value → Shared → Prop} {d : Addr} {kvs : List (Str × Value)}
noncomputable abbrev isD (W : Wd) (kvs : List (Str × Value)) (o : Obj) : Prop := o.IsDictOf (PySem.strKind pw W.w) kvs
theorem isD_nt (o : Obj) (h : isD W kvs o) : notTup o := by
  refine hideP fun PH1 hPH1 => ?_
  obtain ⟨es, ep, _, hd, _⟩ := h
  subst hPH1
  intro vs n q; rw [q] at hd; cases hd
theorem dictOf_of (h : ∃ o, s.heap.get? d = some o ∧ isD W kvs o) : s.heap.DictOf (PySem.strKind pw W.w) d kvs := Heap.dictOf_iff.mpr h
theorem key_str {x : Str} {t : Tok} : (PySem.strKind pw W.w).is x (.str x t) = true := by
  show Value.isStrOf x (.str x t) = true
  simp [Value.isStrOf]
theorem low (h : ∃ o, s.heap.get? 1 = some o) (hd : s.heap.get? d = none) : (d == sysModules) = false := by
  rw [beq_eq_false_iff_ne]
  intro z
  obtain ⟨o, e⟩ := h
  have z : d = 1 := z
  rw [z, e] at hd; cases hd
theorem d_new {Q : Value → Shared → Prop} (D : Led W G L m news s) (h : ∀ a s', (a == sysModules) = false → Led W G L m ((a, isD W []) :: news) s' → Q (.ref a) s') : wpAny (model pw W.w) A (eval (.Dict [] [] pos) env) Q E s := by
  have h3 : (3 : Nat) < s.heap.objs.size := by
    refine hideP fun PH2 hPH2 => ?_
    obtain ⟨o, es, ep, ho, _⟩ := D.hs.g
    subst hPH2
    exact Heap.lt_size ho
  refine wpAny_Dict_empty (h _ _ ?_ (D.push { cls := .type "dict", data := .dict #[] } _ ?_ rfl))
  · rw [beq_eq_false_iff_ne]
    intro z
    have z : s.heap.objs.size = 1 := z
    lia
  · obtain ⟨o, e, i⟩ := Heap.dictOf_iff.mp (Heap.DictOf.new (knd := PySem.strKind pw W.w) s.heap)
    rw [Heap.get?_push_size _ rfl] at e
    cases e
    exact i
theorem d_in {x : Str} {t : Tok} (D : Led W G L m (pre ++ (d, isD W kvs) :: post) s) (lo : (d == sysModules) = false) (h : ∀ s', Led W G L m (pre ++ (d, isD W kvs) :: post) s' → Q (.bool (valueAt kvs x).isSome) s') :
    wpAny (model pw W.w) A (compareOp .In (.str x t) (.ref d)) Q E s :=
  wpAny_in_of (knd := PySem.strKind pw W.w) (k := x) key_str lo (dictOf_of (D.nw (d, isD W kvs) (by simp)).1).mapOf (h _ (D.tok _))
theorem d_set {x : Str} {t : Tok} {Q : Unit → Shared → Prop} (D : Led W G L m (pre ++ (d, isD W kvs) :: post) s) (hz : kvs.length ≤ sizeLine) (h : ∀ s', Led W G L m (pre ++ (d, isD W (stored kvs x v)) :: post) s' → Q () s') :
    wpAny (model pw W.w) A (setItem (.ref d) (.str x t) v) Q E s := by
  refine wpAny_setItem_pairs (knd := PySem.strKind pw W.w) (k := x) key_str (dictOf_of (D.nw (d, isD W kvs) (by simp)).1) (fun h' hd hs => h _ (Led.tok (s := { s with heap := h' }) (D.chg (s' := { s with heap := h' }) (fun b o q n => (hs.2 b n).trans q) (Heap.dictOf_iff.mp hd)) _)) hz
theorem d_get {x : Str} {t : Tok} {u : Value} {value slice : Expr} (D : Led W G L m (pre ++ (d, isD W kvs) :: post) s) (hx : valueAt kvs x = some u) (h : ∀ s', Led W G L m (pre ++ (d, isD W kvs) :: post) s' → Q u s')
    (hs : subscripted slice false (.ref d) (.str x t) = operate [.ref d, .str x t] (getItem (.ref d) (.str x t)) := by with_unfolding_all rfl) :
    wpAny (model pw W.w) A (subscriptTail value slice (.ref d) (.str x t)) Q E s := by
  have hd := dictOf_of (D.nw (d, isD W kvs) (by simp)).1
  exact tail_any hd.typeIs slot_dict_getitem.lookup (wpAny_getItem_of (knd := PySem.strKind pw W.w) (k := x) key_str hd.mapOf hx (h _ (D.tok _))) hs

/-- list.sort of strings -/
theorem l_sort {a : Addr} {vs : List Value} {ss : List Str} (D : Led W G L m ((a, isL vs.toArray) :: news) s) (hS : StrsAre vs ss) (h64 : vs.length < 64)
    (h : ∀ s' vs' ss', Led W G L m ((a, isL vs'.toArray) :: news) s' → StrsAre vs' ss' → ss'.Perm ss → sortedS ss' = true → Q .none s') : wpAny (model pw W.w) A (call (.builtin "list.sort") [.ref a]) Q E s := by
  obtain ⟨n, e⟩ := isL_get (D.get (.head _))
  refine wpAny_call_entry PySem.F.slot_list_sort ⟨_, e, rfl⟩ PySem.F.entry_list_sort ?_ (PySem.F.args_list_sort_1 _)
  refine list_sort_treeK strKind_oneLt (n := n) e hS.keysOf (fun v₁ v₂ rest z => keyKind_strs (by rw [← z]; exact hS)) h64 fun st' hp hs => ?_
  obtain ⟨ss', h1, h2, h3⟩ := sorted_out_str hS hp hs
  refine ⟨_, rfl, h _ ((arrOf st').map (·.2)).toList ss' (D.chg (pre := []) (s' := { s with heap := sortedHeap s.heap a vs ((arrOf st').map (·.2)) }) (fun b o q nb => ?_) ?_) h1 h2 h3⟩
  · rw [sortedHeap_old nb (Heap.lt_size q)]; exact q
  · obtain ⟨e', he'⟩ := sortedHeap_at (out := (arrOf st').map (·.2)) e
    exact ⟨_, he', e', by rw [Array.toArray_toList]⟩
theorem strs_of {kvs : List (Str × Value)} : ∀ {vs : List Value} (off : Nat), vs.length + off = kvs.length → (∀ j v, vs[j]? = some v → ∃ k x, kvs[off + j]? = some (k, x) ∧ (PySem.strKind pw W.w).is k v = true) → StrsAre vs ((kvs.drop off).map (·.1))
  | [], off, hl, h => by
    rw [List.drop_of_length_le (by simp at hl; lia)]
    exact .nil
  | v :: vs, off, hl, h => by
    obtain ⟨k, x, e, hk⟩ := h 0 v rfl
    have e' : kvs[off]? = some (k, x) := e
    obtain ⟨hlt, e2⟩ := List.getElem?_eq_some_iff.mp e'
    obtain ⟨t, rfl⟩ := Value.isStrOf_shape hk
    rw [List.drop_eq_getElem_cons hlt, e2]
    refine .cons k t (strs_of (off + 1) (by simp at hl ⊢; lia) fun j u hj => ?_)
    obtain ⟨k', x', e3, h3⟩ := h (j + 1) u hj
    exact ⟨k', x', by rw [← e3]; congr 1; lia, h3⟩
/-- sorted(d) -/
theorem d_sorted (hh : A.handled = none) (D : Led W G L m ((d, isD W kvs) :: news) s) (lo : (d == sysModules) = false) (hz : kvs.length < 64)
    (h : ∀ B s' vs' ss', Led W G L m ((B, isL vs'.toArray) :: (d, isD W kvs) :: news) s' → StrsAre vs' ss' → ss'.Perm (kvs.map (·.1)) → sortedS ss' = true → Q (.ref B) s') : wpAny (model pw W.w) A (call (.builtin "sorted") [.ref d]) Q E s := by
  obtain ⟨m₀, hn, hm⟩ := D.ns
  refine hideP fun PH3 hPH3 => ?_
  obtain ⟨o, ho, es, ep, r⟩ := D.get (.head _)
  subst hPH3
  have hat : s.heap.DictAt (PySem.strKind pw W.w) d kvs ep := ⟨o, es, ho, r⟩
  refine kdu_sorted (kdl_dict (knd := PySem.strKind pw W.w) (kvs := kvs) (ep := ep) lo) hh (fr_nil hn) (news_all [L] (.head _) s.heap) hat (by rw [sizeLine_eq]; lia) fun B h' tk vs F' N' l1 hl hv => ?_
  have hB := N' _ (.head _)
  have D₁ : Led W G L m ((d, isD W kvs) :: news) { s with heap := h', toks := tk } := Led.tok (s := { s with heap := h' }) (D.keptL (s' := { s with heap := h' }) hm F'.ns fun b o e nb => (N' (b, o) (.tail _ (mem_allN.mpr ⟨by simpa using nb, e⟩))).1) _
  have hBn : s.heap.get? B = none := by
    cases q : s.heap.get? B with
    | none => rfl
    | some o' => exact absurd (l1 (B, o') (mem_allN.mpr ⟨by simpa using hB.2.1, q⟩)) (Nat.lt_irrefl _)
  have D₂ : Led W G L m ((B, isL vs.toArray) :: (d, isD W kvs) :: news) { s with heap := h', toks := tk } := by
    refine D₁.more ⟨_, hB.1, 0, rfl⟩ ?_ hB.2.1 fun p hp z => ?_
    · cases q : G.get? B with
      | none => rfl
      | some o' => have := D.hs.keep _ _ q; rw [hBn] at this; cases this
    · obtain ⟨⟨o', e', _⟩, _⟩ := D.nw p hp
      rw [z, hBn] at e'; cases e'
  have hS := strs_of (W := W) (kvs := kvs) (vs := vs) 0 (by simpa using hl) (fun j v e => by
    obtain ⟨k, x, a, b⟩ := hv j v e
    exact ⟨k, x, by rw [Nat.zero_add]; exact a, b⟩)
  rw [List.drop_zero] at hS
  exact l_sort D₂ hS (by lia) fun s' vs' ss' D' a b c => h B s' vs' ss' D' a b c
end
end Mine
end

section
open PySem PySem.W PyProof.Rows PySem.Calls PySem.Spec
set_option autoImplicit false
namespace Mine
theorem warmrj (w : World) (h : Heap) : (hd.heap_39 w.params).In h → PySem.Challenge.rw_rh0003_01.prog = PySem.Challenge.rw_rh0003_01.prog := by
  k_fill
  intro _
  rfl
noncomputable def isC (v : Option Value) (o : Obj) : Prop := o.data = .cell v
theorem isC_nt {v : Option Value} (o : Obj) (h : isC v o) : notTup o := by
  intro vs n q; unfold isC at h; rw [q] at h; cases h
section
variable {W : Wd} {G : Heap} {L : Addr} {m : List (Str × Value)} {news pre post : List (Addr × (Obj → Prop))} {s : Shared} {A : Around} {E : Value → Shared → Prop} {env : Env} {v : Value} {pos : Pos}
/-- a list comprehension with names of the outer scope -/
theorem e_compF {elt target iter : Expr} {ifs : List Expr} {scope : Scope} {pos : Pos} {cl : List (Str × Addr)} {Q : Value → Shared → Prop} (hclos : closureFor scope env = pure cl)
    (h : wpAny (model pw W.w) A (eval iter env) (fun xv s₁ => wpAny (model pw W.w) A (pyIter xv) (fun it s₂ => ∃ (I : Addr) (P₀ : Obj → Prop), it = .ref I ∧ Led W G L m ((I, P₀) :: news) s₂ ∧
      (∀ (A' : Around) (s' : Shared) (Q' : Value → Shared → Prop) (E' : Value → Shared → Prop), (∃ o, s'.heap.get? I = some o ∧ P₀ o) → Q' (.ref I) s' → wpAny (model pw W.w) A' (pyIter (.ref I)) Q' E' s') ∧
      ∀ acc C oL s₄, s₂.heap.StaysIn s₄.heap → s₂.heap.get? acc = none → Led W G C [] ((I, P₀) :: (acc, isL #[]) :: (L, (· = oL)) :: news) s₄ → 
        codeAny (model pw W.w) A (.compLoop (.ListComp elt [⟨target, iter, ifs, 0⟩] scope pos) 0 (.ref I) (.ref acc) (compEnvC scope cl C env)) (fun r s' => r = .ok .next ∧ ∃ vals mC, Led W G C mC ((acc, isL vals) :: (L, (· = oL)) :: news) s' ∧
          ∀ s'', (∀ b o, b ≠ C → s'.heap.get? b = some o → s''.heap.get? b = some o) → Led W G L m ((acc, isL vals) :: news) s'' → Q (.ref acc) s'') s₄) E s₁) E s)
    (hcell : ∀ x ∈ scope.names, x.2 ≠ .cell := by decide) (hkind : scope.kind = .function := by rfl) (hnames : ∀ x ∈ scope.names, x.2 = .local → scope.names.lookup x.1 = some .local := by decide)
    (hs : ∀ x, foldedSetIterable iter env x = pure x := by intro _; rfl) :
    wpAny (model pw W.w) A (eval (.ListComp elt [⟨target, iter, ifs, 0⟩] scope pos) env) Q E s := by
  rw [eval_ListComp]
  refine wpAny_comprehension_free rfl hs hclos hkind hnames (wpAny_mono h (fun xv s₁ h₁ => wpAny_mono h₁ (fun it s₂ h₂ => ?_) fun _ _ z => z) fun _ _ z => z)
  refine hideP fun PH1 hPH1 => ?_
  obtain ⟨I, P₀, rfl, D, hself, body⟩ := h₂
  subst hPH1
  refine wpAny_newList ?_ (by size_fits)
  have D₃ := D.push { cls := .type "list", data := .seq #[] 0 } (isL #[]) ⟨0, rfl⟩ rfl
  obtain ⟨m₀, hn₀, hm₀⟩ := D₃.ns
  refine wpAny_newFunctionEnv hcell (fun _ h => nomatch h) (fun h' hns hsb => ?_) hkind
  refine hideP fun PH2 hPH2 => ?_
  obtain ⟨oL, es, ep, hL, r⟩ := hn₀
  subst hPH2
  have hCL : s₂.heap.objs.size + 1 ≠ L := fun z => by
    have := Heap.lt_size hL
    rw [Heap.size_push, ← z] at this
    exact Nat.lt_irrefl _ this
  have hsz : (s₂.heap.push { cls := .type "list", data := .seq #[] 0 }).objs.size = s₂.heap.objs.size + 1 := Heap.size_push _ _
  have k₄ : ∀ b o, (s₂.heap.push { cls := .type "list", data := .seq #[] 0 }).get? b = some o → h'.get? b = some o := fun b o e =>
    (hsb.2 b (Nat.ne_of_lt (Heap.lt_size e))).trans (Heap.get?_push_of_some _ e)
  have D₄ : Led W G L m ((s₂.heap.objs.size, isL #[]) :: (I, P₀) :: news) { s₂ with heap := h' } := D₃.kept (s' := { s₂ with heap := h' }) k₄
  have hG : G.get? (s₂.heap.objs.size + 1) = none := by
    cases q : G.get? (s₂.heap.objs.size + 1) with
    | none => rfl
    | some o => exact absurd (Nat.lt_of_succ_lt (Heap.lt_size (D.hs.keep _ _ q))) (Nat.lt_irrefl _)
  have nd := D₄.nd
  simp only [List.map_cons, List.nodup_cons, List.mem_cons] at nd
  have hC : ∀ p ∈ ((s₂.heap.objs.size, isL #[]) :: (I, P₀) :: news), p.1 ≠ s₂.heap.objs.size + 1 := fun p hp z => by
    obtain ⟨⟨o, e, _⟩, _⟩ := D₃.nw p hp
    have := Heap.lt_size e
    rw [Heap.size_push, z] at this
    exact Nat.lt_irrefl _ this
  have D₅ : Led W G (s₂.heap.objs.size + 1) [] ((I, P₀) :: (s₂.heap.objs.size, isL #[]) :: (L, (· = oL)) :: news) { s₂ with heap := h' } := by
    refine ⟨D₄.hs, ⟨_, by rw [← hsz]; exact hns, fun y v e => by cases e⟩, hG, fun p hp => ?_, ?_⟩
    · rcases List.mem_cons.mp hp with rfl | hp
      · exact ⟨(D₄.nw _ (.tail _ (.head _))).1, hC _ (.tail _ (.head _)), (D₄.nw _ (.tail _ (.head _))).2.2⟩
      rcases List.mem_cons.mp hp with rfl | hp
      · exact ⟨(D₄.nw _ (.head _)).1, hC _ (.head _), (D₄.nw _ (.head _)).2.2⟩
      rcases List.mem_cons.mp hp with rfl | hp
      · exact ⟨⟨oL, k₄ _ _ hL, rfl⟩, Ne.symm hCL, D.off⟩
      · exact ⟨(D₄.nw _ (.tail _ (.tail _ hp))).1, hC _ (.tail _ (.tail _ hp)), (D₄.nw _ (.tail _ (.tail _ hp))).2.2⟩
    · simp only [List.map_cons, List.nodup_cons, List.mem_cons]
      refine ⟨?_, ?_, ?_, nd.2.2⟩
      · rintro (z | z | z)
        · exact nd.1 (.inl z.symm)
        · exact (D.nw _ (.head _)).2.1 z
        · exact nd.2.1 z
      · rintro (z | z)
        · exact (D₄.nw _ (.head _)).2.1 z
        · exact nd.1 (.inr z)
      · intro z
        obtain ⟨p, hp, e⟩ := List.mem_map.mp z
        exact (D.nw p (.tail _ hp)).2.1 e
  have fin : ∀ (s' : Shared), (∃ vals mC, Led W G (s₂.heap.objs.size + 1) mC ((s₂.heap.objs.size, isL vals) :: (L, (· = oL)) :: news) s' ∧
      ∀ s'', (∀ b o, b ≠ s₂.heap.objs.size + 1 → s'.heap.get? b = some o → s''.heap.get? b = some o) → Led W G L m ((s₂.heap.objs.size, isL vals) :: news) s'' → Q (.ref s₂.heap.objs.size) s'') →
      ∃ m, s'.heap.Ns (s₂.heap.objs.size + 1) m ∧ ∀ h', Heap.SameBut (s₂.heap.objs.size + 1) s'.heap h' → Q (.ref s₂.heap.objs.size) { s' with heap := h' } := by
    intro s' hr
    obtain ⟨vals, mC, D₆, hq⟩ := hr
    obtain ⟨m₆, hn₆, _⟩ := D₆.ns
    refine ⟨m₆, hn₆, fun h'' hs'' => hq { s' with heap := h'' } (fun b o n e => (hs''.2 b n).trans e) ?_⟩
    have k₇ : ∀ p ∈ (s₂.heap.objs.size, isL vals) :: (L, (· = oL)) :: news, ∀ o, s'.heap.get? p.1 = some o → h''.get? p.1 = some o := fun p hp o e => (hs''.2 _ (D₆.nw p hp).2.1).trans e
    have nd₆ := D₆.nd
    simp only [List.map_cons, List.nodup_cons, List.mem_cons] at nd₆
    refine ⟨D₆.hs.to fun b o e => (hs''.2 b fun z => ?_).trans (D₆.hs.keep b o e), ⟨m₀, ?_, hm₀⟩, D.off, fun p hp => ?_, ?_⟩
    · have z : b = s₂.heap.objs.size + 1 := z
      rw [z, hG] at e; cases e
    · obtain ⟨o', eL, ho'⟩ := D₆.get (p := (L, (· = oL))) (.tail _ (.head _))
      have ho' : o' = oL := ho'
      rw [ho'] at eL
      exact ⟨oL, es, ep, k₇ _ (.tail _ (.head _)) _ eL, r⟩
    · rcases List.mem_cons.mp hp with rfl | hp
      · obtain ⟨⟨o, e, q⟩, _, g⟩ := D₆.nw _ (.head _)
        exact ⟨⟨o, k₇ _ (.head _) _ e, q⟩, fun z => nd₆.1 (.inl z), g⟩
      · obtain ⟨⟨o, e, q⟩, _, g⟩ := D₆.nw p (.tail _ (.tail _ hp))
        exact ⟨⟨o, k₇ _ (.tail _ (.tail _ hp)) _ e, q⟩, fun z => nd₆.2.1 (by rw [← z]; exact List.mem_map_of_mem (f := (·.1)) hp), g⟩
    · simp only [List.map_cons, List.nodup_cons]
      exact ⟨fun z => nd₆.1 (.inr z), nd₆.2.2⟩
  refine codeAny_compStart_list ?_ ?_
  · rw [hsz]
    refine codeAny_mono (body _ _ oL _ (fun b o e => k₄ b o (Heap.get?_push_of_some _ e)) (Heap.get?_none_of_le (Nat.le_refl _)) D₅) fun r s' hr => ?_
    obtain ⟨rfl, hr⟩ := hr
    exact fin s' hr
  · refine hself _ _ _ _ (D₅.get (.head _)) ?_
    rw [hsz]
    refine codeAny_mono (body _ _ oL _ (fun b o e => k₄ b o (Heap.get?_push_of_some _ e)) (Heap.get?_none_of_le (Nat.le_refl _)) D₅) fun r s' hr => ?_
    obtain ⟨rfl, hr⟩ := hr
    exact fin s' hr

theorem enterCell {Q : Value → Shared → Prop} {name qual cvn : Str} {params : Arguments} {body : List Stmt} {scope : Scope} {dV kV doc pm cdv ct oc : Value} {an od : Option Addr} {osl : Array (Option Value)} {f : Addr} {args : List Value} {binds : List (Str × Value)} (m : List (Str × Value)) (cv : Option Value) (hs : Hs W G s) (hn : ∀ p ∈ news, (∃ o, s.heap.get? p.1 = some o ∧ p.2 o) ∧ G.get? p.1 = none) (nd : (news.map (·.1)).Nodup)
    (ho : (hd.heap_39 W.w.params).lookup f = some ⟨oc, od, .func (fnOf name qual params body scope dV kV doc pm an cdv ct), osl⟩) (hcd : codeIn (hd.heap_39 W.w.params) cdv qual = true) (hroom : A.depth < recursionLimit)
    (hbind : bindArgs (fnOf name qual params body scope dV kV doc pm an cdv ct) ⟨args, []⟩ = pure binds)
    (hkind : ∀ n, ∀ x ∈ binds, scope.names.lookup x.1 = some .local ∨ (scope.names.lookup x.1 = some .cell ∧ ((cellsFrom n scope.names []).lookup x.1).isSome = true))
    (hcells : ∀ n, cellsFrom n scope.names [] = [(cvn, n)])
    (hm : ∀ L y v, lk m y = some v → bindL (envX qual scope L f cdv [(cvn, L + 1)]).kindOf binds (fun _ => none) y = some v) (hc : ∀ L, bindC (envX qual scope L f cdv [(cvn, L + 1)]).kindOf binds (fun _ => none) cvn = cv)
    (hco : scope.isCoroutine = false) (hgen : scope.isGenerator = false) (hk : scope.kind = .function)
    (h : ∀ L s₁, Led W G L m ((L + 1, isC cv) :: news) s₁ → s.heap.StaysIn s₁.heap → s.heap.get? L = none →
      wpAny (model pw W.w) (A.deeper (envX qual scope L f cdv [(cvn, L + 1)])) (execs body (envX qual scope L f cdv [(cvn, L + 1)])) (RetQ Q) (LeaveE W (A.deeper (envX qual scope L f cdv [(cvn, L + 1)])) (envX qual scope L f cdv [(cvn, L + 1)]) E) s₁) :
    wpAny (model pw W.w) A (call (.ref f) args) Q E s := by
  have henv : callEnvC (fnOf name qual params body scope dV kV doc pm an cdv ct) s.heap.objs.size f = envX qual scope s.heap.objs.size f cdv [(cvn, s.heap.objs.size + 1)] := by
    unfold callEnvC newEnv
    show ({ scope := scope, locals := s.heap.objs.size, globals := mainGlobals, cells := cellsFrom (s.heap.objs.size + 1) scope.names [], qual := qual ++ ".<locals>.", func := some f, code := cdv, frame := some s.heap.objs.size, builtins := builtinsNs } : Env) = _
    rw [hcells]
  refine wpAny_call (codeAny_call_cells (fd := fnOf name qual params body scope dV kV doc pm an cdv ct) hroom (hs.X _ _ ho) rfl hs.lim (codeRec_of hs.X hcd) rfl hbind rfl (hkind _) (fun s₁ X => ?_) hco hgen hk)
  rw [henv] at X ⊢
  have none : s.heap.get? s.heap.objs.size = none := Heap.get?_none_of_le (Nat.le_refl _)
  have off : ∀ b, s.heap.objs.size ≤ b → G.get? b = .none := fun b hb => by
    cases q : G.get? b with
    | none => rfl
    | some o => exact absurd hb (Nat.not_le_of_lt (Heap.lt_size (hs.keep _ _ q)))
  obtain ⟨h', tk, rfl, hk₁⟩ := X.done
  have hcell := X.cell cvn (s.heap.objs.size + 1) (by show List.lookup cvn [(cvn, s.heap.objs.size + 1)] = _; simp)
  rw [hc] at hcell
  refine h s.heap.objs.size { s with heap := h', toks := tk } ⟨(hs.to (s' := { s with heap := h' }) (fun b o e => hk₁ b o (hs.keep b o e))).st |> fun st => ⟨hs.st, hs.top, fun b o e => hk₁ b o (hs.keep b o e), hs.gen, hs.oss⟩, ⟨_, X.toInCall.ns, hm _⟩, off _ (Nat.le_refl _), fun p hp => ?_, ?_⟩ hk₁ none
  · rcases List.mem_cons.mp hp with rfl | hp
    · obtain ⟨o, e, d⟩ := hcell
      exact ⟨⟨o, e, d⟩, Nat.succ_ne_self _, off _ (Nat.le_succ _)⟩
    · obtain ⟨⟨o, e, q⟩, r⟩ := hn p hp
      exact ⟨⟨o, hk₁ _ _ e, q⟩, Nat.ne_of_lt (Heap.lt_size e), r⟩
  · rw [List.map_cons, List.nodup_cons]
    refine ⟨fun hm => ?_, nd⟩
    obtain ⟨p, hp, e⟩ := List.mem_map.mp hm
    obtain ⟨⟨o, q, _⟩, _⟩ := hn p hp
    have h1 := Heap.lt_size q
    rw [e] at h1
    exact Nat.lt_irrefl _ (Nat.lt_of_succ_lt h1)
end
end Mine
end

section
open PySem PySem.W PyProof.Rows PySem.Calls PySem.Spec
set_option autoImplicit false
namespace Mine
/-- the pairs of the dict -/
noncomputable def Prs (h : Heap) (kvs : List (Str × Value)) (f : List (Str × Tr)) : Prop := kvs.map (·.1) = f.map (·.1) ∧ Reps h (kvs.map (·.2)) (f.map (·.2))
theorem Prs.mono {h h' : Heap} {kvs : List (Str × Value)} {f : List (Str × Tr)} (x : Prs h kvs f) (k : h.StaysIn h') : Prs h' kvs f := ⟨x.1, x.2.mono k⟩
theorem Reps.mono' {h h' : Heap} {vs : List Value} {l : List Tr} (k : ∀ a vs n, h.get? a = some (tupOf vs n) → h'.get? a = some (tupOf vs n)) (x : Reps h vs l) : Reps h' vs l := by
  induction l generalizing vs with
  | nil => cases x; exact .nil
  | cons t l ih => cases x with | cons a b => exact .cons (a.mono' k) (ih b)
theorem prs_get {h : Heap} : ∀ {kvs : List (Str × Value)} {f : List (Str × Tr)}, Prs h kvs f → (f.map (·.1)).Nodup → ∀ k t, (k, t) ∈ f → ∃ u, valueAt kvs k = some u ∧ Rep h u t
  | [], [], _, _, k, t, hm => by cases hm
  | [], _ :: _, x, _, _, _, _ => by cases x.1
  | _ :: _, [], x, _, _, _, _ => by cases x.1
  | (k1, v1) :: kvs, (k2, t2) :: f, ⟨x1, x2⟩, nd, k, t, hm => by
    simp only [List.map_cons, List.cons.injEq] at x1
    obtain ⟨rfl, x1⟩ := x1
    cases x2 with
    | cons a b =>
      simp only [List.map_cons, List.nodup_cons] at nd
      rcases List.mem_cons.mp hm with e | hm
      · cases e
        exact ⟨v1, by simp [valueAt], a⟩
      · obtain ⟨u, hu, hr⟩ := prs_get ⟨x1, b⟩ nd.2 k t hm
        have hne : k1 ≠ k := fun z => nd.1 (by rw [z]; exact List.mem_map_of_mem (f := (·.1)) hm)
        exact ⟨u, by rw [← hu]; simp [valueAt, List.find?, hne], hr⟩
theorem valueAt_isSome {kvs : List (Str × Value)} {k : Str} : (valueAt kvs k).isSome = decide (k ∈ kvs.map (·.1)) := by
  unfold valueAt
  rw [Option.isSome_map]
  by_cases h : k ∈ kvs.map (·.1)
  · rw [decide_eq_true h, List.find?_isSome]
    obtain ⟨p, hp, e⟩ := List.mem_map.mp h
    exact ⟨p, hp, by simpa using e⟩
  · rw [decide_eq_false h, ← Bool.not_eq_true, List.find?_isSome]
    rintro ⟨p, hp, e⟩
    exact h (List.mem_map.mpr ⟨p, hp, by simpa using e⟩)
theorem stored_new {kvs : List (Str × Value)} {k : Str} {v : Value} (h : k ∉ kvs.map (·.1)) : stored kvs k v = kvs ++ [(k, v)] := by
  unfold stored
  rw [if_neg]
  simp only [List.any_eq_true, decide_eq_true_eq, not_exists, not_and]
  intro p hp e
  exact h (List.mem_map.mpr ⟨p, hp, e⟩)
noncomputable def XY (k : Str) : Prop := k = "?x" ∨ k = "?y"
theorem nx : Str.ofString "?x" ≠ Str.ofString "?y" := by decide
theorem short {l : List Str} (nd : l.Nodup) (h : ∀ k ∈ l, XY k) : l.length ≤ 2 := by
  match l with
  | [] => simp
  | [_] => simp
  | [_, _] => simp
  | a :: b :: c :: r =>
    exfalso
    simp only [List.nodup_cons, List.mem_cons, not_or] at nd
    rcases h a (by simp) with rfl | rfl <;> rcases h b (by simp) with rfl | rfl <;> rcases h c (by simp) with rfl | rfl <;> simp at nd
theorem ord_sorted {f : List (Str × Tr)} {ss : List Str} (nd : (f.map (·.1)).Nodup) (h : ∀ k ∈ f.map (·.1), XY k) (hp : ss.Perm (f.map (·.1))) (hs : sortedS ss = true) : ss = (ordP f).map (·.1) := by
  have hl := short nd h
  match f with
  | [] => simp at hp; subst hp; rfl
  | [(a, t)] =>
    have e : ss = [a] := by simpa using hp
    subst e
    rcases h a (by simp) with rfl | rfl <;> rfl
  | [(a, t), (b, u)] =>
    have hl2 : ss.length = 2 := by simpa using hp.length_eq
    obtain ⟨y1, y2, rfl⟩ : ∃ y1 y2, ss = [y1, y2] := by
      match ss, hl2 with
      | [y1, y2], _ => exact ⟨y1, y2, rfl⟩
    have nd2 := hp.nodup_iff.mpr nd
    have m1 : XY y1 := h _ (hp.mem_iff.mp (by simp))
    have m2 : XY y2 := h _ (hp.mem_iff.mp (by simp))
    have n1 : XY a := h a (by simp)
    have n2 : XY b := h b (by simp)
    rcases m1 with rfl | rfl <;> rcases m2 with rfl | rfl <;> rcases n1 with rfl | rfl <;> rcases n2 with rfl | rfl <;>
      first
        | rfl
        | (exfalso; simp at nd; done)
        | (exfalso; simp at nd2; done)
        | (exfalso; revert hs; decide)
  | _ :: _ :: _ :: _ => simp at hl
theorem ordP_mem {f : List (Str × Tr)} {q : Str × Tr} (h : q ∈ ordP f) : q ∈ f := by
  unfold ordP at h
  rcases List.mem_append.mp h with h | h <;> exact (List.mem_filter.mp h).1
theorem strs_at : ∀ {vs : List Value} {ss : List Str}, StrsAre vs ss → vs.length = ss.length ∧ ∀ (i : Nat) (k : Str), ss[i]? = some k → ∃ t : Tok, vs[i]? = some (Value.str k t)
  | _, _, .nil => ⟨rfl, fun i k e => by simp at e⟩
  | _, _, .cons x t h => by
    obtain ⟨a, b⟩ := strs_at h
    refine ⟨by simp [a], fun i k e => ?_⟩
    cases i with
    | zero => simp at e; subst e; exact ⟨t, rfl⟩
    | succ i => simp at e; exact b i k e
end Mine
end

section
open PySem PySem.W PyProof.Rows PySem.Calls PySem.Spec
set_option autoImplicit false
namespace Mine
theorem warmrk (w : World) (h : Heap) : (hd.heap_39 w.params).In h → PySem.Challenge.rw_rh0003_01.prog = PySem.Challenge.rw_rh0003_01.prog := by
  k_fill
  intro _
  rfl
section
variable {W : Wd} {G : Heap} {L : Addr} {m : List (Str × Value)} {news pre post : List (Addr × (Obj → Prop))} {s : Shared} {A : Around} {E : Value → Shared → Prop} {env : Env} {v : Value} {pos : Pos}
  {Q : Value → Shared → Prop} {x dx : Addr} {r : RK} {ws : List (Str × Int)} {p d : Nat} {fs : List Env} {n : Nat} {res : Res}
theorem r_callE {o name : Str} {p1 p2 p3 : Pos} {f : Addr} {pl : Sem Bool} (D : Led W G L m news s) (hv : lk m o = some (.ref x)) (hx : G.get? x = some (instObj 258 dx)) (hdx : ∃ o, s.heap.get? dx = some o ∧ isR r p d o)
    (hf : findIn (hd.heap_39 W.w.params) (.ref 258) name = some (some (.ref f))) (hi : isFn (hd.heap_39 W.w.params) (.ref f) = true) (hkp : keepIn (hd.heap_39 W.w.params) (.ref f) = true)
    (h : wpAny (model pw W.w) A (call (.ref f) [.ref x]) Q E s) (hl : ∀ t u, getL name (r.es (.int p t) (.int d u)) = some none := by intro _ _; rfl) (hL : env.locals = L := by rfl)
    (hk : env.scope.kind = .function := by rfl) (hlo : env.kindOf o = some .local := by rfl) (hdb : (o == ("__debug__" : Str)) = false := by decide)
    (he : eval (.Call (.Attribute (.Name o p1) name p2) [] [] p3) env = (do let ov ← eval (.Name o p1) env; standAt p2.atName; let (f, first) ← holding [ov] (getMethod ov name pl); callWith p3 f first (backTo p3 (starEach [] env)) []) := by with_unfolding_all rfl) :
    wpAny (model pw W.w) A (eval (.Call (.Attribute (.Name o p1) name p2) [] [] p3) env) Q E s := by
  refine hideP fun PH1 hPH1 => ?_
  obtain ⟨_, hdx, t, u, rfl⟩ := hdx
  subst hPH1
  exact MethodCall_ (pl := pl) (nmE D hv (i_meth D.hs.X (D.at hx) hdx (rplain _) hf hi (hl t u) (callWith_K0 D.hs.X hkp h)) hL hk hlo hdb) he
theorem x_faultE {np cpos pos : Pos} {ae : Expr} {args : List Expr} {rest : List Stmt} {Q : Flow → Shared → Prop} {n : Nat} (c : Cx A fs (n + 2)) (hfr : env.frame = some L) (D : Led W G L m news s) (hff : G.FunFrames {} fs)
    (h : wpAny (model pw W.w) (A.deeper env) (spliced (backTo cpos (starEach (ae :: args) env))) (fun vs s₁ => ∃ msg tm sp tsp, vs = [.str msg tm, .int sp tsp] ∧ Led W G L m news s₁ ∧
      (∀ s' e, Out W s₁.heap (env :: fs) [] e sp none s' → E (.ref e) s')) E s)
    (hk : env.scope.kind = .function := by rfl) (hl : env.kindOf "TextFault" = some .globalImplicit := by rfl) (hg : env.globals = mainGlobals := by rfl)
    (he : starEach (ae :: args) env = (false, eval ae env) :: starEach args env := by rfl) (hplain : (backTo cpos (starEach args env)).any (·.1) = false := by rfl) :
    wpAny (model pw W.w) (A.deeper env) (execs (.Raise (some (.Call (.Name "TextFault" np) (ae :: args) [] cpos)) none pos :: rest) env) Q E s := by
  refine x_raise (G := W.H) c.hd (Call_ ?_)
  refine Calls.Name_function_global hk hl (Calls.loadGlobal_global (env := env) (by rw [hg]; exact D.hs.g) (mg_some D.hs.st fmg76) ?_) (by decide)
  refine callWith_K D.hs.X fkp76 (wpAny_mono h (fun vs s₁ h₁ => ?_) fun _ _ z => z) he hplain
  refine hideP fun PH2 hPH2 => ?_
  obtain ⟨msg, tm, sp, tsp, rfl, D₁, hE⟩ := h₁
  subst hPH2
  refine ⟨D₁.hs.X, c_fault D₁.hs (by have := c.dep; show A.depth + 1 + 2 < 1000; lia) fun s' e a1 xd H e₁ q₁ q₂ n₁ d₁ => ?_⟩
  refine ⟨e, a1, xd, rfl, H.lo H.top fun _ _ z => z, e₁, hE s' e ⟨⟨fun b o z _ _ => H.keep b o z, fun b o z _ => ⟨o.slots, H.keep b o z⟩, ?_, fun b o z => ⟨o, H.keep b o z⟩, q₁, _, _, xd, e₁, rfl, rfl, rfl, (show 1 < 6 by lia), q₂, fun hm => ?_, d₁, rfl⟩, H.gen, H.oss⟩⟩
  · have f := (D₁.back0 H).ffv (env := env) hff [] (fun _ h => nomatch h) (by rw [hk]; decide) hfr
    exact ffs f hid_in
  · have f := (D₁).ffv (env := env) hff [] (fun _ h => nomatch h) (by rw [hk]; decide) hfr
    obtain ⟨_, o, q, _⟩ := f.mem hm
    have := hid_in _ _ q
    rw [q₂] at this; cases this
theorem cellAt {c : Addr} {cv : Option Value} (D : Led W G L m news s) (h : (c, isC cv) ∈ news) : s.heap.IsCell c cv := let ⟨o, e, d⟩ := D.get h; ⟨o, e, d⟩
theorem PL_end {f : List (Str × Tr)} {rl : ResL} (h : PL ws d p f rl) (hp : nw ws p = ")") : rl = .ok f p := by
  induction h using PL.casesOn with
  | nil => rfl
  | novar q => exact absurd hp q
  | twice q => exact absurd hp q
  | er q => exact absurd hp q
  | cons q => exact absurd hp q
theorem PL_in {f : List (Str × Tr)} {rl : ResL} (h : PL ws d p f rl) (hp : nw ws p ≠ ")") : (isVar (nw ws p) = false → rl = .er p) ∧ (isVar (nw ws p) = true → (nw ws p ∈ f.map (·.1) → rl = .er p) ∧
    (nw ws p ∉ f.map (·.1) → ∃ r, PT ws d (p + 1) r ∧ (∀ q, r = .er q → rl = .er q) ∧ ∀ t p', r = .ok t p' → PL ws d p' (f ++ [(nw ws p, t)]) rl)) := by
  induction h using PL.casesOn with
  | nil q => exact absurd q hp
  | novar _ q => exact ⟨fun _ => rfl, fun z => (by rw [q] at z; cases z)⟩
  | twice _ q q2 => exact ⟨fun _ => rfl, fun _ => ⟨fun _ => rfl, fun z => absurd q2 z⟩⟩
  | er _ q q2 h => exact ⟨fun z => (by rw [q] at z; cases z), fun _ => ⟨fun z => absurd z q2, fun _ => ⟨_, h, fun q e => (by cases e; rfl), fun t p' e => (by cases e)⟩⟩⟩
  | cons _ q q2 h h2 => exact ⟨fun z => (by rw [q] at z; cases z), fun _ => ⟨fun z => absurd z q2, fun _ => ⟨_, h, fun q e => (by cases e), fun t p' e => (by cases e; exact h2)⟩⟩⟩

theorem no_tests {Q : Bool → Shared → Prop} {F : Expr → Bool → Sem (ForInStep Bool)} (h : Q true s) : wpAny (model pw W.w) A (forIn [] true F) Q E s := wpAny_pure h
theorem fmg_sorted : nsIn (hd.heap_39 W.w.params) mainGlobals "sorted" = some none := by k_is

theorem n_bltE {y : Str} {px : Pos} (D : Led W G L m news s) (hn : W.mg y = none) (hv : bootBuiltins y = some v) (h : Q v s) (hg : env.globals = mainGlobals := by rfl) (hb : env.builtins = builtinsNs := by rfl)
    (hk : env.scope.kind = .function := by rfl) (hl : env.kindOf y = some .globalImplicit := by rfl) (hd : (y == ("__debug__" : Str)) = false := by decide) (hx : y ≠ "__name__" := by decide) :
    wpAny (model pw W.w) A (eval (.Name y px) env) Q E s := Calls.Name_function_global hk hl (g_blt D hn hv h hg hb hx) hd
theorem n_cell {y : Str} {px : Pos} {cc : Addr} (D : Led W G L m news s) (hc : (cc, isC (some v)) ∈ news) (h : Q v s) (hk : env.scope.kind = .function := by rfl) (hl : env.kindOf y = some .cell := by rfl) (he : env.cells.lookup y = some cc := by rfl)
    (hd : (y == ("__debug__" : Str)) = false := by decide) : wpAny (model pw W.w) A (eval (.Name y px) env) Q E s := wpAny_Name (wpAny_loadName_cell hk hl he (cellAt D hc) h) hd
theorem nt3 {fd cc : Addr} {kvs : List (Str × Value)} : ∀ q ∈ [(dx, isR r p d), (cc, isC (some v)), (fd, isD W kvs)], ∀ o, q.2 o → notTup o := by
  intro q hq o ho
  rcases List.mem_cons.mp hq with rfl | hq
  · exact isR_nt o ho
  rcases List.mem_cons.mp hq with rfl | hq
  · exact isC_nt o ho
  · rw [List.mem_singleton.mp hq] at ho; exact isD_nt o ho
inductive PlacesI (W : Wd) (s : Shared) (L x dx fd : Addr) (r : RK) (ws : List (Str × Int)) (d p : Nat) (rl : ResL) (n' : Nat) (s' : Shared) : Prop
  | mk (p1 : Nat) (kvs : List (Str × Value)) (f : List (Str × Tr)) (mL : List (Str × Value)) (G₁ : Heap) (_ : n' = ws.length - p1) (_ : p ≤ p1) (_ : p1 < ws.length) (_ : Led W G₁ L mL [(dx, isR r p1 d), (L + 1, isC (some (.ref fd))), (fd, isD W kvs)] s') (_ : lk mL "self" = some (.ref x)) (_ : Prs G₁ kvs f) (_ : (hid s.heap [dx]).StaysIn G₁) (_ : (f.map (·.1)).Nodup) (_ : (∀ k ∈ f.map (·.1), XY k)) (_ : PL ws d p1 f rl) : PlacesI W s L x dx fd r ws d p rl n' s'
inductive PlacesJ (W : Wd) (C I B acc L dx fd : Addr) (oL : Obj) (r : RK) (p1 d : Nat) (kvs : List (Str × Value)) (f : List (Str × Tr)) (G₄ : Heap) (i : Nat) (s' : Shared) : Prop
  | mk (vals : List Value) (mC : List (Str × Value)) (G₃ : Heap) (_ : G₄.StaysIn G₃) (_ : Led W G₃ C mC [(I, isIt "list_iterator" (.ref B) i), (acc, isL vals.toArray), (L, (· = oL)), (dx, isR r p1 d), (L + 1, isC (some (.ref fd))), (fd, isD W kvs)] s') (_ : Reps G₃ vals (((ordP f).take i).map pairT)) : PlacesJ W C I B acc L dx fd oL r p1 d kvs f G₄ i s'
theorem c_places (he : Ends ws) (hv : ∀ q, isVar (nw ws q) = true → nw ws q = "?x" ∨ nw ws q = "?y") (d p : Nat) (rl : ResL) (h : PL ws d p [] rl) : CL W ws x dx r d p rl := by
  intro G s A fs n E Q hs ff c hn R hG hdx hw k hE
  obtain ⟨hs', st'⟩ := mv_dx hs hG
  have R := R.mono st'
  have ff' := ffs ff st'
  obtain ⟨n, rfl⟩ : ∃ n', n = n' + 6 := ⟨n - 6, by lia⟩
  refine enterCell [("self", .ref x)] none (news := [(dx, isR r p d)]) hs' (fun q hq => by rw [List.mem_singleton.mp hq]; exact ⟨hdx, hid_none (.head _)⟩) (by simp) (by k_is) (by k_is) c.room rfl ?_ (cvn := "found") (by intro _; rfl) (fun L y v e => ?_) (fun L => rfl) rfl rfl rfl fun L s₁ D stk hL => ?_
  · intro n q hq
    rw [List.mem_singleton.mp hq]
    exact .inl rfl
  · exact e
  refine x_asg (d_new D fun fd s₂ lo D₂ => ?_)
  refine wpAny_storeName_cell rfl rfl rfl (cellAt D₂ (.tail _ (.head _))) fun h₃ hc₃ hs₃ => ?_
  have D₃ : Led W (hid s.heap [dx]) L [("self", .ref x)] [(fd, isD W []), (L + 1, isC (some (.ref fd))), (dx, isR r p d)] { s₂ with heap := h₃ } :=
    D₂.chg (pre := [(fd, isD W [])]) (s' := { s₂ with heap := h₃ }) (fun b o q n => (hs₃.2 b n).trans q) hc₃
  have D₃ := D₃.perm (news' := [(dx, isR r p d), (L + 1, isC (some (.ref fd))), (fd, isD W [])]) (by
    refine List.Perm.trans (.swap _ _ _) (List.Perm.trans (.cons _ (.swap _ _ _)) (.trans (.swap _ _ _) (.cons _ (.refl _)))))
  refine x_whileH (PlacesI W s L x dx fd r ws d p rl) (ws.length - p) ?_ ?_
  · exact ⟨p, [], [], _, _, rfl, Nat.le_refl _, hw, D₃, lk_hd, ⟨rfl, .nil⟩, fun _ _ z => z, List.nodup_nil, (fun _ h => nomatch h), h⟩
  rintro Q₁ E₁ B₁ T₁ hQ₁ hE₁ hB₁ hT₁ n' s₄ ⟨p1, kvs, f, mL, G₁, rfl, hp1, hp1w, D₄, ls, pr, g₁, nd, xy, hPL⟩
  have R₁ := R.mono g₁
  have f₁ := ffs ff' g₁
  have hkl : kvs.length = f.length := by have := congrArg List.length pr.1; simpa using this
  have hfl : f.length ≤ 2 := by have := short nd xy; simpa using this
  refine wpAny_isTrue_Compare1 (r_callE D₄ ls R₁.inst (D₄.get (.head _)) rf_word ri_word k166 ?_)
  refine c_word D₄.hs R₁ (D₄.get (.head _)) (nw_at hp1w) (c.deep _).room fun s₅ t₅ H₅ => ?_
  refine e_str (D₄.back0 H₅) fun s₆ t₆ D₆ => ne_str (wpAny_truthy_bool ?_)
  by_cases hq : nw ws p1 = ")"
  · first | refine if_no (show (nw ws p1 != Str.ofString ")") = false from (by simpa using hq)) ?_ | rw [show (nw ws p1 != Str.ofString ")") = false from by simpa using hq, if_neg (by decide)]
    have hr := PL_end hPL hq
    refine x_ret (Call_ (n_bltE D₆ (mg_none hs.st fmg_tuple) rfl (kb1 (spliced_more ?_))))
    have D₆' := D₆.perm (news' := [(fd, isD W kvs), (dx, isR r p1 d), (L + 1, isC (some (.ref fd)))]) (by
      refine List.Perm.trans (.cons _ (.swap _ _ _)) (.swap _ _ _))
    refine hide fun Q₂ E₂ hQ₂ hE₂ => ?_
    refine e_compF (cl := [("found", L + 1)]) rfl (news := [(dx, isR r p1 d), (L + 1, isC (some (.ref fd))), (fd, isD W kvs)]) (m := mL) (G := G₁) (L := L)
      (Call_ (n_bltE D₆ (mg_none hs.st fmg_sorted) rfl (kb1 (spliced_more (n_cell D₆ (.tail _ (.head _)) (spliced_none ?_))))))
    refine d_sorted c.hd D₆' lo (by lia) fun B s₇ vs' ss' D₇ hS hp hsrt => ?_
    have hss := ord_sorted nd xy (by rw [← pr.1]; exact hp) hsrt
    obtain ⟨Bn, hB⟩ := isL_get (D₇.get (.head _))
    have hB : s₇.heap.get? B = some (lstOf vs'.toArray Bn) := hB
    have D₇' := (D₇.less (List.sublist_cons_self _ _)).perm (news' := [(dx, isR r p1 d), (L + 1, isC (some (.ref fd))), (fd, isD W kvs)]) (by
      refine List.Perm.trans (.swap _ _ _) (.cons _ (.swap _ _ _)))
    refine it_list D₇' hB fun I s₈ D₈ k₈ => ⟨I, _, rfl, D₈, fun A' s' Q' E' hI h => it_self hI h, fun acc C oL s₉ k₉ na D₉ => ?_⟩
    have hBI : B ≠ I := fun z => by
      obtain ⟨o, e, hc, _⟩ := D₈.get (.head _)
      rw [← z, k₈ _ _ hB] at e; cases e
      exact absurd hc (show (Value.type "list" : Value) ≠ .type "list_iterator" from by decide)
    obtain ⟨E₉, g₉⟩ := D₉.anew
    have hB₈ := k₈ _ _ hB
    have hB₉ := k₉ _ _ hB₈
    have hBG : (hid s₉.heap (C :: [(I, isIt "list_iterator" (.ref B) 0), (acc, isL #[]), (L, fun x => x = oL), (dx, isR r p1 d), (L + 1, isC (some (.ref fd))), (fd, isD W kvs)].map (·.1))).get? B = some (lstOf vs'.toArray Bn) := by
      refine hid_get hB₉ fun hm => ?_
      have nd₇ := D₇.nd
      simp only [List.map_cons, List.map_nil, List.nodup_cons, List.mem_cons, List.not_mem_nil, or_false, not_or] at nd₇
      simp only [List.map_cons, List.map_nil, List.mem_cons, List.not_mem_nil, or_false] at hm
      rcases hm with z | z | z | z | z | z | z
      · obtain ⟨m₀, ⟨o, es, ep, ho, hd, _⟩, _⟩ := D₉.ns
        rw [← z, hB₉] at ho; cases ho; cases hd
      · exact hBI z
      · rw [z, na] at hB₈; cases hB₈
      · exact (D₇.nw _ (.head _)).2.1 z
      · exact nd₇.1.2.1 z
      · exact nd₇.1.2.2 z
      · exact nd₇.1.1 z
    refine gen (hid s₉.heap (C :: [(I, isIt "list_iterator" (.ref B) 0), (acc, isL #[]), (L, fun x => x = oL), (dx, isR r p1 d), (L + 1, isC (some (.ref fd))), (fd, isD W kvs)].map (·.1))) fun G₄ hG₄ => ?_
    rw [hG₄] at E₉ g₉ hBG
    have hlen := strs_at hS
    have hol : vs'.length = (ordP f).length := by rw [hlen.1, hss, List.length_map]
    have hol2 : (ordP f).length ≤ 2 := by
      have h1 := hp.length_eq
      rw [List.length_map, hkl] at h1
      have h2 := hlen.1
      lia
    have hoL : notTup oL := by
      obtain ⟨m₀, ⟨o, es, ep, ho, hd, _⟩, _⟩ := D₈.ns
      obtain ⟨o', e', ho'⟩ := D₉.get (p := (L, (· = oL))) (.tail _ (.tail _ (.head _)))
      have ho' : o' = oL := ho'
      rw [ho', k₉ _ _ ho] at e'
      cases e'
      intro vs n q; rw [q] at hd; cases hd
    have hA : ∀ env, (A.deeper env).handled = none := fun _ => c.hd
    refine c_loopH (PlacesJ W C I B acc L dx fd oL r p1 d kvs f G₄) vs'.length ?_ ?_ ?_
    · exact ⟨[], [], G₄, fun _ _ z => z, E₉, by rw [List.take_zero]; exact .nil⟩
    · rintro R₀ N₀ hR₀ hN₀ s₁₀ ⟨vals, mC, G₃, g₃, D₁₀, rs⟩
      refine end_list (hA _) D₁₀ (D₁₀.at (g₃ _ _ hBG)) (by simp) fun s₁₁ D₁₁ _ => ⟨rfl, ?_⟩
      subst hR₀
      refine ⟨rfl, vals.toArray, mC, D₁₁.lo (fun b o z => g₃ b o (g₉ b o z)) (fun b o z => g₁ b o (hs'.top b o z)), fun s₁₂ k₁₂ D₁₂ => ?_⟩
      subst hQ₂
      refine spliced_none ?_
      obtain ⟨_, hfl'⟩ := isL_get (D₁₂.get (.head _))
      have hvl : vals.length ≤ 2 := by rw [rs.len, List.length_map, List.length_take]; lia
      refine call_tuple_list (isList_of hfl') (fun h' k' => ?_) (by rw [sizeLine_eq, List.size_toArray]; lia)
      have D₁₃ := (D₁₂.kept (s' := { s₁₂ with heap := h' }) k').push (tupOf vals 0) (· = tupOf vals 0) rfl rfl
      obtain ⟨_, ha, rfl⟩ := D₁₃.get (.head _)
      have D₁₄ := D₁₃.lo g₁ hs'.top
      have rs' : Reps s₁₂.heap vals ((ordP f).map pairT) := by
        rw [List.take_of_length_le (by rw [hol]; exact Nat.le_refl _)] at rs
        refine (rs.mono D₁₁.hs.keep).mono' fun a vs n e => k₁₂ a _ (fun z => ?_) e
        obtain ⟨m₀, ⟨o, es, ep, ho, hd, _⟩, _⟩ := D₁₁.ns
        rw [← z, e] at ho; cases ho; cases hd
      subst hQ₁
      exact ret_v (k _ _ hr _ _ D₁₄.hs (D₁₄.get (.tail _ (.tail _ (.head _)))) (.node ha ((rs'.mono k').mono fun b o z => Heap.get?_push_of_some _ z)) hp1w)
    · rintro B₃ N₃ hB₃ hN₃ i s₁₀ hi ⟨vals, mC, G₃, g₃, D₁₀, rs⟩
      obtain ⟨⟨nm, tr⟩, hit⟩ : ∃ q, (ordP f)[i]? = some q := ⟨_, List.getElem?_eq_getElem (by lia)⟩
      obtain ⟨tk, hvi⟩ := hlen.2 i nm (by rw [hss, List.getElem?_map, hit]; rfl)
      obtain ⟨u, hu, ru⟩ := prs_get pr nd nm tr (ordP_mem (List.mem_of_getElem? hit))
      refine nx_list D₁₀ (D₁₀.at (g₃ _ _ hBG)) (by simpa using hvi) fun s₁₁ D₁₁ _ => ⟨_, rfl, a_locE D₁₁ fun s₁₂ D₁₂ => ?_⟩
      refine no_tests ?_
      first | refine if_yes rfl ?_ | rw [if_pos rfl]
      refine Tuple_ (spliced_more (nmE D₁₂ lk_hd ?_))
      refine spliced_more (Subscript_ ?_)
      refine n_cell D₁₂ (.tail _ (.tail _ (.tail _ (.tail _ (.head _))))) ?_
      refine nmE D₁₂ lk_hd ?_
      refine d_get (pre := [(I, isIt "list_iterator" (.ref B) (i + 1)), (acc, isL vals.toArray), (L, (· = oL)), (dx, isR r p1 d), (L + 1, isC (some (.ref fd)))]) D₁₂ hu (fun s₁₃ D₁₃ => ?_) (by with_unfolding_all rfl)
      refine spliced_none (t_new D₁₃ (by size_fits) fun a s₁₄ D₁₄ => ?_)
      obtain ⟨_, ha, rfl⟩ := D₁₄.get (.head _)
      have rp : Rep s₁₄.heap (.ref a) (pairT (nm, tr)) := .node ha (.cons .leaf (.cons (ru.mono fun b o z => D₁₄.hs.keep b o (g₃ b o (g₉ b o z))) .nil))
      have D₁₅ := D₁₄.less (List.sublist_cons_self _ _)
      have nt : ∀ q ∈ ([(I, isIt "list_iterator" (.ref B) (i + 1)), (acc, isL vals.toArray), (L, (· = oL)), (dx, isR r p1 d), (L + 1, isC (some (.ref fd))), (fd, isD W kvs)] : List (Addr × (Obj → Prop))), ∀ o, q.2 o → notTup o := by
        intro q hq o ho
        rcases List.mem_cons.mp hq with rfl | hq
        · intro vs n z
          have h1 := ho.1
          rw [z] at h1
          exact absurd h1 (show (Value.type "tuple" : Value) ≠ .type "list_iterator" from by decide)
        rcases List.mem_cons.mp hq with rfl | hq
        · exact isL_nt o ho
        rcases List.mem_cons.mp hq with rfl | hq
        · have ho : o = oL := ho
          rw [ho]; exact hoL
        · exact nt3 q hq o ho
      have rp' := D₁₅.rep nt rp
      have hz : vals.length ≤ 2 := by rw [rs.len, List.length_map, List.length_take]; lia
      refine l_append (pre := [(I, isIt "list_iterator" (.ref B) (i + 1))]) (its := vals.toArray) D₁₅.anew.1 (by rw [sizeLine_eq, List.size_toArray]; lia) fun s₁₆ D₁₆ => ?_
      subst hB₃
      refine ⟨vals ++ [.ref a], _, _, fun b o z => D₁₅.anew.2 b o (g₃ b o z), by rw [← List.push_toArray]; exact D₁₆, ?_⟩
      rw [List.take_add_one, hit]
      show Reps _ _ (((ordP f).take i ++ [(nm, tr)]).map pairT)
      rw [List.map_append (f := pairT)]
      exact (rs.mono D₁₅.anew.2).snoc rp'
  · first | refine if_yes (show (nw ws p1 != Str.ofString ")") = true from (by simpa using hq)) ?_ | rw [show (nw ws p1 != Str.ofString ")") = true from by simpa using hq, if_pos rfl]
    have hin := PL_in hPL hq
    refine x_asg (r_callE D₆ ls R₁.inst (D₆.get (.head _)) rf_spot i173 k173 ?_)
    refine c_spot D₆.hs R₁ (D₆.get (.head _)) hp1w (c.deep _).room fun s₇ t₇ H₇ => ?_
    refine s_locE (D₆.back0 H₇) fun s₈ D₈ => ?_
    refine x_asg (r_callE D₈ (lk_tl ls) R₁.inst (D₈.get (.head _)) rf_variable i215 k215 ?_)
    refine c_variable (n := n + 1) D₈.sH (D₈.sF f₁) (c.deep _) (R₁.mono D₈.sG) sN (D₈.get (.head _)) hp1w (fun hok s₉ t₉ H₉ h₉ => ?_) fun hno e s₉ X => ?_
    rotate_left
    · subst hT₁ hE₁
      refine tn c rfl X (.inr (.inl rfl)) fun s₁₀ X₁₀ => ?_
      exact lvx c (D₈.lo g₁ hs'.top) hL rfl ff' X₁₀ (.inr (.inr rfl)) fun s₁₁ X₁₁ => hE _ (hin.1 hno) _ _ X₁₁
    have hin := hin.2 hok
    have hxy := hv _ hok
    have hp2w : p1 + 1 < ws.length := he _ hp1w (by rcases hxy with z | z <;> rw [z] <;> decide)
    refine s_locE (D₈.back1 (pre := []) H₉ h₉) fun s₁₀ D₁₀ => ?_
    refine x_if (wpAny_isTrue_Compare1 (nmE D₁₀ lk_hd (n_cell D₁₀ (.tail _ (.head _)) (d_in (pre := [(dx, isR r (p1 + 1) d), (L + 1, isC (some (.ref fd)))]) D₁₀ lo fun s₁₁ D₁₁ => wpAny_truthy_bool ?_))))
    have hkeys : kvs.map (·.1) = f.map (·.1) := pr.1
    rw [valueAt_isSome, hkeys]
    by_cases hm : nw ws p1 ∈ f.map (·.1)
    · rw [decide_eq_true hm, if_pos rfl]
      have hlen := (nw_ok R₁ hp1w).2
      refine x_faultE (n := n) (c.less (by lia)) rfl D₁₁ f₁ (spliced_more (join2 (FormattedValue_plain (nmE D₁₁ lk_hd (formatField_str (fun t' tk => ⟨_, _, rfl, Nat.le_trans hlen (by decide), _, _, _, _, D₁₁.tok _, fun s₁₂ z tz D₁₂ => ?_⟩) (by rw [sizeLine_eq]; exact Nat.le_trans hlen (by decide))))) (by decide)))
      refine spliced_more (nmE D₁₂ (lk_tl lk_hd) (spliced_none ⟨_, _, _, _, rfl, D₁₂, fun s₁₃ e X => ?_⟩))
      subst hT₁ hE₁
      refine tn c rfl X (.inl rfl) fun s₁₄ X₁₄ => ?_
      exact lv c (D₁₂.lo g₁ hs'.top) hL rfl ff' (fun q hq => by rw [List.mem_singleton.mp hq]; exact ⟨_, .head _, rfl⟩) (by intro b o h; cases h) X₁₄ (.inr (.inr rfl)) fun s₁₅ X₁₅ => hE _ (hin.1 hm) _ _ X₁₅
    · rw [decide_eq_false hm, if_neg (by decide)]
      refine x_nil (seq_next ?_)
      obtain ⟨rT, hT, hTe, hTo⟩ := hin.2 hm
      refine x_asgS (r_callE D₁₁ (lk_tl (lk_tl ls)) R₁.inst (D₁₁.get (.head _)) rf_term i222 k222 ?_)
      refine c_term he _ d (p1 + 1) rT (Nat.le_refl _) hT _ _ _ _ (n + 5) _ _ D₁₁.sH (D₁₁.sF f₁) (c.deep _) (by lia) (R₁.mono D₁₁.sG) sN (D₁₁.get (.head _)) hp2w (fun t p' hr s₁₂ v H₁₂ h₁₂ hv' hp' => ?_) fun q hq e s₁₂ X => ?_
      · have D₁₂ := D₁₁.back1 (pre := []) H₁₂ h₁₂
        obtain ⟨E₁₂, g₁₂⟩ := D₁₂.anew
        have rv₁₂ := D₁₂.rep nt3 hv'
        have hlt := PT_lt hT t p' hr
        refine n_cell E₁₂ (.tail _ (.head _)) (nmE E₁₂ lk_hd (d_set (pre := [(dx, isR r p' d), (L + 1, isC (some (.ref fd)))]) E₁₂ (by rw [hkl, sizeLine_eq]; lia) fun s₁₃ D₁₃ => x_nil ?_))
        subst hB₁
        have hst := stored_new (v := v) (by rw [hkeys]; exact hm : nw ws p1 ∉ kvs.map (·.1))
        rw [hst] at D₁₃
        refine ⟨_, by lia, p', _, f ++ [(nw ws p1, t)], _, _, rfl, by lia, hp', D₁₃, lk_tl (lk_tl ls), ⟨by simp [hkeys], by rw [List.map_append (l₁ := kvs), List.map_append (l₁ := f)]; exact (pr.2.mono g₁₂).snoc rv₁₂⟩, fun b o z => g₁₂ b o (g₁ b o z), ?_, ?_, hTo t p' hr⟩
        · rw [List.map_append, List.nodup_append]
          refine ⟨nd, by simp, fun a ha b hb e => ?_⟩
          simp at hb
          exact hm (by rw [← hb, ← e]; exact ha)
        · intro k hk
          rw [List.map_append, List.mem_append] at hk
          rcases hk with hk | hk
          · exact xy k hk
          · simp at hk; subst hk; exact hxy
      · subst hT₁ hE₁
        refine tn c rfl X (.inr (.inl rfl)) fun s₁₃ X₁₃ => ?_
        exact lvx c (D₁₁.lo g₁ hs'.top) hL rfl ff' X₁₃ (.inr (.inr rfl)) fun s₁₄ X₁₄ => hE _ (hTe _ hq) _ _ X₁₄
end
end Mine
end

section
open PySem PySem.W PyProof.Rows PySem.Calls PySem.Spec
set_option autoImplicit false
namespace Mine
theorem warmsa (w : World) (h : Heap) : (hd.heap_39 w.params).In h → PySem.Challenge.rw_rh0003_01.prog = PySem.Challenge.rw_rh0003_01.prog := by
  k_fill
  intro _
  rfl
section
variable {W : Wd} {G : Heap} {L : Addr} {m : List (Str × Value)} {news pre post : List (Addr × (Obj → Prop))} {s : Shared} {A : Around} {E : Value → Shared → Prop} {env : Env} {v : Value} {pos : Pos}
  {Q : Value → Shared → Prop} {fx rl : Addr} {fs : List Env} {n : Nat}
/-- the feed -/
noncomputable def isFd (W : Wd) (rl : Addr) (B : Nat) (o : Obj) : Prop := ∃ (a : Nat) (t : Tok), a ≤ B ∧ isD W [("row", .ref rl), ("at", .int a t)] o
theorem isFd_nt {B : Nat} (o : Obj) (h : isFd W rl B o) : notTup o := let ⟨_, _, _, h⟩ := h; isD_nt o h
structure Row (G : Heap) (fx rl : Addr) : Prop where
  lo : (fx == sysModules) = false
  row : ∃ (items : Array Value) (n : Nat) (is : List Int), G.get? rl = some (lstOf items n) ∧ IntsAre items.toList is ∧ items.size ≤ 100
theorem Row.mono {G' : Heap} (R : Row G fx rl) (k : G.StaysIn G') : Row G' fx rl := ⟨R.lo, let ⟨a, b, c, d, e⟩ := R.row; ⟨a, b, c, k _ _ d, e⟩⟩
theorem ints_at : ∀ {vs : List Value} {is : List Int}, IntsAre vs is → ∀ (i : Nat), i < vs.length → ∃ (z : Int) (t : Tok), vs[i]? = some (.int z t)
  | _, _, .nil, i, h => by simp at h
  | _, _, .cons x t h, 0, _ => ⟨x, t, rfl⟩
  | _, _, .cons x t h, i + 1, hi => ints_at h i (by simpa using hi)
theorem small_bits {a : Nat} (h : a ≤ 1000000) : Builtin.Int.intBits (a : Int) ≤ 64 := by
  unfold Builtin.Int.intBits
  split
  · lia
  · rename_i hz
    have hz' : a ≠ 0 := by simpa using hz
    rw [Int.natAbs_natCast]
    have := (Nat.log2_lt hz' (k := 63)).mpr (by lia)
    lia
theorem fmg_len : nsIn (hd.heap_39 W.w.params) mainGlobals "len" = some none := by k_is
theorem c_pick {many B : Nat} {tm : Tok} (hs : Hs W G s) (hd : A.depth < recursionLimit) (R : Row G fx rl) (hG : G.get? fx = none) (hf : ∃ o, s.heap.get? fx = some o ∧ isFd W rl B o) (hB : B ≤ 1000000) (hm : 0 < many)
    (k : ∀ s' (v : Nat) t, Hs W (hid s.heap [fx]) s' → (∃ o, s'.heap.get? fx = some o ∧ isFd W rl (B + 1) o) → v < many → Q (.int v t) s') : wpAny (model pw W.w) A (call (.ref 278) [.ref fx, .int many tm]) Q E s := by
  obtain ⟨hs', st'⟩ := mv_dx hs hG
  have R := R.mono st'
  refine hideP fun PH1 hPH1 => ?_
  obtain ⟨items, ni, is, hrow, hints, hsz⟩ := R.row
  subst hPH1
  refine hideP fun PH2 hPH2 => ?_
  obtain ⟨o, ho, a, ta, haB, hfd⟩ := hf
  subst hPH2
  refine enterC [("many", .int many tm), ("feed", .ref fx)] (news := [(fx, isD W [("row", .ref rl), ("at", .int a ta)])]) hs' (fun q hq => by rw [List.mem_singleton.mp hq]; exact ⟨⟨o, ho, hfd⟩, hid_none (.head _)⟩) (by simp) (by k_is) (by k_is) hd rfl rfl rfl rfl rfl (by decide) fun L s₁ D stk hL => ?_
  refine x_asg (Subscript_ (n_loc D (lk_tl lk_hd) (e_str D fun s₂ t₂ D₂ => ?_)))
  refine d_get (pre := []) D₂ (u := .int a ta) rfl fun s₃ D₃ => ?_
  refine s_loc D₃ fun s₄ D₄ => ?_
  refine x_asgS (wpAny_BinOp ?_)
  refine n_loc D₄ lk_hd (e_int D₄ fun s₅ t₅ D₅ => P.add_int ?_)
  refine n_loc (D₅.tok _) (lk_tl (lk_tl lk_hd)) (e_str (D₅.tok _) fun s₆ t₆ D₆ => ?_)
  refine d_set (pre := []) D₆ (by rw [sizeLine_eq]; show 2 ≤ 16777216; lia) fun s₇ D₇ => ?_
  refine x_ret (wpAny_BinOp (IfExp_ (wpAny_isTrue_Compare1 ?_)))
  refine n_loc D₇ lk_hd ?_
  refine Call_ (n_blt D₇ (mg_none hs.st fmg_len) rfl (kb1 (spliced_more (Subscript_ (n_loc D₇ (lk_tl (lk_tl lk_hd)) (e_str D₇ fun s₈ t₈ D₈ => ?_))))))
  refine d_get (pre := []) D₈ (u := .ref rl) rfl (fun s₉ D₉ => ?_) (by with_unfolding_all rfl)
  refine spliced_none (call_len_list (isList_of (D₉.at hrow)) (by lia) ?_)
  refine lt_int (wpAny_truthy_bool ?_)
  have fin : ∀ (z : Int) (tz : Tok) s₁₀, Led W (hid s.heap [fx]) L [("at", .int a ta), ("many", .int many tm), ("feed", .ref fx)] [(fx, isD W (stored [("row", .ref rl), ("at", .int a ta)] "at" (.int ((a : Int) + 1) s₅.toks)))] s₁₀ →
      wpAny (model pw W.w) (A.deeper (envOf (Str.ofString "_law_pick") { kind := ScopeKind.function, names := [("feed", NameKind.local), ("many", NameKind.local), ("at", NameKind.local), ("len", NameKind.globalImplicit)], isGenerator := false, isCoroutine := false } L 278 (.ref 277)))
        (binaryOp .Mod (.int z tz) (.int many tm)) (fun v s' => RetQ Q (.ret v) s') (LeaveE W (A.deeper (envOf (Str.ofString "_law_pick") { kind := ScopeKind.function, names := [("feed", NameKind.local), ("many", NameKind.local), ("at", NameKind.local), ("len", NameKind.globalImplicit)], isGenerator := false, isCoroutine := false } L 278 (.ref 277))) (envOf (Str.ofString "_law_pick") { kind := ScopeKind.function, names := [("feed", NameKind.local), ("many", NameKind.local), ("at", NameKind.local), ("len", NameKind.globalImplicit)], isGenerator := false, isCoroutine := false } L 278 (.ref 277)) E) s₁₀ := by
    intro z tz s₁₀ D₁₀
    refine PyProof.Rows.mod_int (by lia) ?_
    have h0 : 0 ≤ Int.fmod z many := Int.fmod_nonneg_of_pos z (by lia)
    have h1 : Int.fmod z many < many := Int.fmod_lt_of_pos z (by lia)
    obtain ⟨v, hv⟩ := Int.eq_ofNat_of_zero_le h0
    rw [hv] at h1 ⊢
    have D₁₁ : Led W (hid s.heap [fx]) L [("at", .int a ta), ("many", .int many tm), ("feed", .ref fx)] [(fx, isFd W rl (B + 1))] { s₁₀ with toks := s₁₀.toks + 1 } := (D₁₀.tok _).soft (pre := []) (post := []) fun o h => ⟨a + 1, _, by lia, h⟩
    exact ret_v (k _ _ _ D₁₁.hs (D₁₁.get (.head _)) (by lia))
  by_cases hlt : a < items.size
  · first | refine if_yes (show decide ((a : Int) < (items.size : Int)) = true from (by simpa using hlt)) ?_ | rw [show decide ((a : Int) < (items.size : Int)) = true from by simpa using hlt, if_pos rfl]
    obtain ⟨z, tz, hz⟩ := ints_at hints a (by simpa using hlt)
    have D₁₀ := (D₉.tok (s₉.toks + 1 + 1))
    refine Subscript_ (Subscript_ (n_loc D₁₀ (lk_tl (lk_tl lk_hd)) (e_str D₁₀ fun s₁₁ t₁₁ D₁₁ => ?_)))
    refine d_get (pre := []) D₁₁ (u := .ref rl) rfl (fun s₁₂ D₁₂ => ?_) (by with_unfolding_all rfl)
    refine n_loc D₁₂ lk_hd ?_
    refine li_get (D₁₂.at hrow) rfl (by lia) (by simpa using hz) ?_
    exact n_loc D₁₂ (lk_tl lk_hd) (fin z tz _ D₁₂)
  · first | refine if_no (show decide ((a : Int) < (items.size : Int)) = false from (by simpa using hlt)) ?_ | rw [show decide ((a : Int) < (items.size : Int)) = false from by simpa using hlt, if_neg (by decide)]
    have D₁₀ := (D₉.tok (s₉.toks + 1 + 1))
    refine wpAny_BinOp (wpAny_BinOp (wpAny_BinOp (wpAny_BinOp (wpAny_BinOp (e_int D₁₀ fun s₁₁ t₁₁ D₁₁ => n_loc D₁₁ lk_hd ?_)))))
    refine P.mul_int ?_ (IntMulOk.of_left (by decide))
    refine n_loc (D₁₁.tok _) lk_hd (P.mul_int ?_ (IntMulOk.of_right (small_bits (by lia))))
    refine wpAny_BinOp (e_int ((D₁₁.tok _).tok _) fun s₁₂ t₁₂ D₁₂ => n_loc D₁₂ lk_hd (P.mul_int ?_ (IntMulOk.of_left (by decide))))
    refine P.add_int (e_int ((D₁₂.tok _).tok _) fun s₁₃ t₁₃ D₁₃ => PyProof.Rows.floordiv_int (by decide) ?_ (.inl ?_))
    · refine e_int (D₁₃.tok _) fun s₁₄ t₁₄ D₁₄ => P.add_int ?_
      exact n_loc (D₁₄.tok _) (lk_tl lk_hd) (fin _ _ _ (D₁₄.tok _))
    · rfl
end
end Mine
end

section
open PySem PySem.W PyProof.Rows PySem.Calls PySem.Spec
set_option autoImplicit false
namespace Mine
section
variable {W : Wd} {G : Heap} {L : Addr} {m : List (Str × Value)} {news pre post : List (Addr × (Obj → Prop))} {s : Shared} {A : Around} {E : Value → Shared → Prop} {env : Env} {v : Value} {pos : Pos}
  {Q : Value → Shared → Prop} {l b I : Addr} {its its2 : Array Value} {n2 : Nat}
theorem l_extend (D : Led W G L m (pre ++ (l, isL its) :: post) s) (hb : s.heap.get? b = some (lstOf its2 n2)) (hz : its.size + its2.size ≤ sizeLine) (h : ∀ s', Led W G L m (pre ++ (l, isL (its ++ its2)) :: post) s' → Q .none s') :
    wpAny (model pw W.w) A (call (.builtin "list.extend") [.ref l, .ref b]) Q E s := by
  obtain ⟨m₀, hn, hm⟩ := D.ns
  have hl := D.nw (l, isL its) (by simp)
  obtain ⟨n, e⟩ := isL_get hl.1
  have e : s.heap.get? l = some { cls := .type "list", data := .seq its.toList.toArray n } := by rw [Array.toArray_toList]; exact e
  refine extend_in (own := []) (rest := allN s.heap [L, l]) (ys := its.toList) (n := n) (fr_nil hn) (fun p hp => ?_) (fun _ h => nomatch h) (fun p hp z => (mem_allN.mp hp).1 (by rw [z]; simp)) hb (fun h' n' F' N' => ?_) (by rw [Array.length_toList]; exact hz)
  · rcases List.mem_cons.mp hp with rfl | hp
    · exact ⟨e, hl.2.1, get_nil _⟩
    · exact ⟨(mem_allN.mp hp).2, fun z => (mem_allN.mp hp).1 (by rw [z]; simp), get_nil _⟩
  · refine h _ (D.chgL (s' := { s with heap := h' }) hm F'.ns (fun b o q nb nd => (N' (b, o) (.tail _ (mem_allN.mpr ⟨by simp [nb, nd], q⟩))).1) ⟨_, (N' _ (.head _)).1, n', ?_⟩)
    congr 2
    simp
theorem l_add (D : Led W G L m news s) (hl : s.heap.get? l = some (lstOf its n2)) {n3 : Nat} (hb : s.heap.get? b = some (lstOf its2 n3)) (hz : its.size + its2.size ≤ sizeLine) (h : ∀ a s', Led W G L m ((a, isL (its.toList ++ its2.toList).toArray) :: news) s' → s.heap.get? a = none → Q (.ref a) s') :
    wpAny (model pw W.w) A (binaryOp .Add (.ref l) (.ref b)) Q E s := by
  obtain ⟨m₀, hn, hm⟩ := D.ns
  refine add_arrays (fr_nil hn) (news_all [L] (.head _) s.heap) (isList_of hl) (isList_of hb) (fun h' F' N' => ?_) hz
  have hB := N' _ (.head _)
  have st : ∀ b o, b ≠ L → s.heap.get? b = some o → h'.get? b = some o := fun b o nb e => (N' (b, o) (.tail _ (mem_allN.mpr ⟨by simpa using nb, e⟩))).1
  have D₁ : Led W G L m news { s with heap := h' } := D.keptL (s' := { s with heap := h' }) hm F'.ns fun b o e nb => st b o nb e
  have hBn : s.heap.get? s.heap.objs.size = none := Heap.get?_none_of_le (Nat.le_refl _)
  refine h _ _ (D₁.more ⟨_, hB.1, 0, rfl⟩ ?_ hB.2.1 fun p hp z => ?_) hBn
  · cases q : G.get? s.heap.objs.size with
    | none => rfl
    | some o' => have := D.hs.keep _ _ q; rw [hBn] at this; cases this
  · obtain ⟨⟨o', e', _⟩, _⟩ := D.nw p hp
    rw [z, hBn] at e'; cases e'
/-- ranges -/
noncomputable def isRg (x left st : Int) (o : Obj) : Prop := o = { cls := .type "range_iterator", data := .fields #[rawInt x, rawInt left, rawInt st] }
theorem isRg_nt {x left st : Int} (o : Obj) (h : isRg x left st o) : notTup o := by
  intro vs n q; rw [h] at q; exact absurd (congrArg Obj.cls q) (show (Value.type "range_iterator" : Value) ≠ .type "tuple" from by decide)
theorem rg_size {k : Nat} : Builtin.Range.rangeSize 0 k 1 = k := by
  unfold Builtin.Range.rangeSize
  first | refine if_yes rfl ?_ | rw [if_pos (by decide)]
  split <;> lia
theorem rg_small {k : Nat} (h : k ≤ 100000) : Builtin.Range.small 0 k 1 = true := by
  unfold Builtin.Range.small
  rw [rg_size]
  have e : ∀ z : Int, 0 ≤ z → z ≤ 100000 → Builtin.Range.rangeFitsLong z = true := by
    intro z h0 h1
    unfold Builtin.Range.rangeFitsLong
    simp
    lia
  rw [e 0 (by lia) (by lia), e k (by lia) (by lia), e 1 (by lia) (by lia)]
  rw [if_pos (by decide), e ((k : Int) + (1 - 1)) (by lia) (by lia)]
  simp
theorem rg_new {k : Nat} {t : Tok} (D : Led W G L m news s) (hk : k ≤ 100000) (h : ∀ a s', Led W G L m ((a, isRg 0 k 1) :: news) s' → Q (.ref a) s') : wpAny (model pw W.w) A (call (.type "range") [.int k t]) (fun v s' => wpAny (model pw W.w) A (pyIter v) Q E s') E s := by
  refine call_range_1 ?_
  have D₁ := (D.pushed { cls := .type "range", data := .fields #[.int 0 s.toks, .int k t, .int 1 (s.toks + 1)] } rfl).tok (s.toks + 1 + 1)
  refine wpAny_pyIter_range (a := 0) (b := k) (c := 1) (t := s.toks) (u := t) (v := s.toks + 1) ?_ (rg_small hk) ?_
  · exact Heap.get?_push_size _ rfl
  · rw [rg_size]
    exact h _ _ (D₁.push _ _ rfl rfl)
theorem nx_rg {x left st : Int} {Q : Option Value → Shared → Prop} (D : Led W G L m ((I, isRg x left st) :: news) s) (hl : 0 < left) (h : ∀ s' t, Led W G L m ((I, isRg (x + st) (left - 1) st) :: news) s' → Q (some (.int x t)) s') :
    wpAny (model pw W.w) A (pyNext (.ref I)) Q E s := by
  obtain ⟨o, e, ho⟩ := D.get (.head _)
  have ho : o = _ := ho
  rw [ho] at e
  refine wpAny_pyNext_range_item e hl fun h' hi hs => ?_
  have D' : Led W G L m ((I, isRg (x + st) (left - 1) st) :: news) { s with heap := h' } := D.chg (pre := []) (P' := isRg (x + st) (left - 1) st) (s' := { s with heap := h' }) (fun b o q n => (hs.2 b n).trans q) ⟨_, hi, rfl⟩
  exact h _ _ (D'.tok _)
theorem end_rg {x left st : Int} {Q : Option Value → Shared → Prop} (hh : A.handled = none) (D : Led W G L m ((I, isRg x left st) :: news) s) (hl : left ≤ 0) (h : ∀ s', Led W G L m news s' → Q none s') :
    wpAny (model pw W.w) A (pyNext (.ref I)) Q E s := by
  obtain ⟨o, e, ho⟩ := D.get (.head _)
  have ho : o = _ := ho
  rw [ho] at e
  exact wpAny_pyNext_range_end hh e hl fun h' hs => h _ (D.drop (s' := { s with heap := h' }) fun b o n q => hs b o n q)
end
end Mine
end

section
open PySem PySem.W PyProof.Rows PySem.Calls PySem.Spec
set_option autoImplicit false
namespace Mine
/-- the words that are laid -/
noncomputable def alpha : List Str := ["(", ")", ":", "same", "told", "rule", "turn", "join", "under", "what", "?x", "?y", "a", "b2", "f", "r1"]
noncomputable def wt (w : Str) : Int := if w = "(" then 1 else if w = ")" then -1 else 0
noncomputable def bal : List Str → Int
  | [] => 0
  | w :: r => wt w + bal r
theorem bal_app : ∀ a b : List Str, bal (a ++ b) = bal a + bal b
  | [], b => by simp [bal]
  | w :: r, b => by simp only [List.cons_append, bal, bal_app r b]; lia
/-- words with a peak of brackets, a sum and a length -/
structure Gw (f : Int) (N : Nat) (t : Int) (ws : List Str) : Prop where
  al : ∀ w ∈ ws, w ∈ alpha
  pk : ∀ k, bal (ws.take k) ≤ f
  tot : bal ws = t
  len : ws.length ≤ N
theorem Gw.nil {f : Int} (h : 0 ≤ f) : Gw f 0 0 [] := ⟨(fun _ h => nomatch h), (fun k => by simp [bal]; exact h), rfl, Nat.le_refl _⟩
theorem Gw.app {f f1 f2 t1 t2 : Int} {N1 N2 : Nat} {a b : List Str} (x : Gw f1 N1 t1 a) (y : Gw f2 N2 t2 b) (h1 : f1 ≤ f) (h2 : t1 + f2 ≤ f) : Gw f (N1 + N2) (t1 + t2) (a ++ b) := by
  refine ⟨fun w hw => (List.mem_append.mp hw).elim (x.al w) (y.al w), fun k => ?_, by rw [bal_app, x.tot, y.tot], by rw [List.length_append]; have := x.len; have := y.len; lia⟩
  rw [List.take_append, bal_app]
  by_cases hk : k ≤ a.length
  · rw [show k - a.length = 0 from by lia, List.take_zero]
    have := x.pk k
    simp only [bal]
    lia
  · rw [List.take_of_length_le (by lia), x.tot]
    have := y.pk (k - a.length)
    lia
theorem Gw.one {w : Str} (h : w ∈ alpha) : Gw (max 0 (wt w)) 1 (wt w) [w] := by
  refine ⟨fun v hv => by rw [List.mem_singleton.mp hv]; exact h, fun k => ?_, by simp [bal], Nat.le_refl _⟩
  cases k with
  | zero => simp [bal]; lia
  | succ k => simp [bal]; lia
theorem Gw.wk {f f' t : Int} {N N' : Nat} {ws : List Str} (x : Gw f N t ws) (h : f ≤ f') (hN : N ≤ N') : Gw f' N' t ws := ⟨x.al, fun k => Int.le_trans (x.pk k) h, x.tot, Nat.le_trans x.len hN⟩
theorem Gw.sub {f t : Int} {N : Nat} {ws : List Str} (x : Gw f N t ws) : t ≤ f := by
  have := x.pk ws.length
  rw [List.take_length, x.tot] at this
  exact this
/-- a list of words in the heap -/
noncomputable def StrL (h : Heap) (l : Addr) (ws : List Str) : Prop := ∃ vs n, h.get? l = some (lstOf (vs : List Value).toArray n) ∧ StrsAre vs ws
theorem StrL.mono {h h' : Heap} {l : Addr} {ws : List Str} (x : StrL h l ws) (k : h.StaysIn h') : StrL h' l ws := let ⟨vs, n, a, b⟩ := x; ⟨vs, n, k _ _ a, b⟩
theorem strs_app : ∀ {a b : List Value} {x y : List Str}, StrsAre a x → StrsAre b y → StrsAre (a ++ b) (x ++ y)
  | _, _, _, _, .nil, h => h
  | _, _, _, _, .cons x t r, h => .cons x t (strs_app r h)
theorem strs_len {vs : List Value} {ws : List Str} (h : StrsAre vs ws) : vs.length = ws.length := (strs_at h).1
end Mine
end

section
open PySem PySem.W PyProof.Rows PySem.Calls PySem.Spec
set_option autoImplicit false
namespace Mine
theorem warmsc (w : World) (h : Heap) : (hd.heap_39 w.params).In h → PySem.Challenge.rw_rh0003_01.prog = PySem.Challenge.rw_rh0003_01.prog := by
  k_fill
  intro _
  rfl
section
variable {W : Wd} {G : Heap} {L : Addr} {m : List (Str × Value)} {news pre post : List (Addr × (Obj → Prop))} {s : Shared} {A : Around} {E : Value → Shared → Prop} {env : Env} {v : Value} {pos : Pos}
  {Q : Value → Shared → Prop} {fx rl : Addr} {fs : List Env} {n B : Nat}
theorem fmg_pick : nsIn (hd.heap_39 W.w.params) mainGlobals "_law_pick" = some (some (.ref 278)) := by k_is
theorem k278 : keepIn (hd.heap_39 W.w.params) (.ref 278) = true := by k_is
theorem fmg_lterm : nsIn (hd.heap_39 W.w.params) mainGlobals "_law_term" = some (some (.ref 285)) := by k_is
theorem k285 : keepIn (hd.heap_39 W.w.params) (.ref 285) = true := by k_is
theorem fmg_range : nsIn (hd.heap_39 W.w.params) mainGlobals "range" = some none := by k_is
theorem p_call {ae : Expr} {p1 p2 p4 : Pos} {many : Nat} {qn : Str} {sc : Scope} {fa : Addr} {cd : Value} (D : Led W G L m ((fx, isFd W rl B) :: news) s) (R : Row G fx rl) (hv : lk m "feed" = some (.ref fx)) (hd : A.depth < recursionLimit) (hB : B ≤ 1000000) (hm : 0 < many)
    (hae : ∀ s', Led W G L m ((fx, isFd W rl B) :: news) s' → wpAny (model pw W.w) A (eval ae (envOf qn sc L fa cd)) (fun v s'' => ∃ t, v = .int many t ∧ Led W G L m ((fx, isFd W rl B) :: news) s'') E s')
    (k : ∀ s' (v : Nat) t, Led W G L m ((fx, isFd W rl (B + 1)) :: news) s' → v < many → Q (.int v t) s')
    (hk : sc.kind = .function := by rfl) (h1 : (envOf qn sc L fa cd).kindOf "_law_pick" = some .globalImplicit := by rfl) (h2 : (envOf qn sc L fa cd).kindOf "feed" = some .local := by rfl)
    (hs2 : starEach [ae] (envOf qn sc L fa cd) = (false, eval ae (envOf qn sc L fa cd)) :: starEach [] (envOf qn sc L fa cd) := by rfl) :
    wpAny (model pw W.w) A (eval (.Call (.Name "_law_pick" p1) [.Name "feed" p2, ae] [] p4) (envOf qn sc L fa cd)) Q E s := by
  have hs3 : starEach [.Name "feed" p2, ae] (envOf qn sc L fa cd) = (false, eval (.Name "feed" p2) (envOf qn sc L fa cd)) :: starEach [ae] (envOf qn sc L fa cd) := by rfl
  refine Call_ (n_glb D (mg_some D.hs.st fmg_pick) (callWith_K D.hs.X k278 (spliced_more (n_loc D hv (spliced_more (wpAny_mono (hae s D) (fun v s' h' => ?_) fun _ _ z => z) hs2) hk h2 (by decide)) hs3) hs3 (by rw [hs2]; rfl)) hk h1 (by decide))
  obtain ⟨t, rfl, D'⟩ := h'
  refine spliced_none ⟨D'.hs.X, c_pick D'.sH hd (R.mono D'.sG) sN (D'.get (.head _)) hB hm fun s'' v t H h hv => k _ _ _ (D'.back1 (pre := []) H h) hv⟩

noncomputable def lt : Nat → Nat
  | 0 => 1
  | f + 1 => 3 + 2 * lt f
noncomputable def ct : Nat → Nat
  | 0 => 1
  | f + 1 => 2 + 2 * ct f
theorem Led.fdw {B' : Nat} (D : Led W G L m ((fx, isFd W rl B) :: news) s) (h : B ≤ B') : Led W G L m ((fx, isFd W rl B') :: news) s := D.soft (pre := []) fun o ⟨a, t, ha, hd⟩ => ⟨a, t, Nat.le_trans ha h, hd⟩
noncomputable def CLt (W : Wd) (fx rl : Addr) (f : Nat) : Prop := ∀ (G : Heap) (s : Shared) (A : Around) (B n : Nat) (tf : Tok) (E Q : Value → Shared → Prop), Hs W G s → A.depth + f + 2 ≤ 990 → A.handled = none → Row G fx rl → G.get? fx = none → (∃ o, s.heap.get? fx = some o ∧ isFd W rl B o) → B + ct f ≤ 1000000 → f ≤ 5 →
    (∀ s' l ws, Hs W (hid s.heap [fx]) s' → (∃ o, s'.heap.get? fx = some o ∧ isFd W rl (B + ct f) o) → s.heap.get? l = none → StrL s'.heap l ws → Gw f (lt f) 0 ws → Q (.ref l) s') →
    wpAny (model pw W.w) A (call (.ref 285) [.ref fx, .int f tf]) Q E s
theorem gr_of {a : Addr} {P : Obj → Prop} {o : Obj} (D : Led W G L m ((a, P) :: news) s) (e : s.heap.get? a = some o) : ∃ G', Led W G' L m news s ∧ G.StaysIn G' ∧ G'.get? a = some o := by
  have D' := D.less (List.sublist_cons_self _ _)
  refine ⟨_, D'.anew.1, D'.anew.2, hid_get e fun hm => ?_⟩
  rcases List.mem_cons.mp hm with z | hm
  · exact (D.nw _ (.head _)).2.1 z
  · have nd := D.nd
    rw [List.map_cons, List.nodup_cons] at nd
    exact nd.1 hm
theorem t_gr {vs : List Value} (D : Led W G L m news s) (hz : vs.length ≤ sizeLine) (h : ∀ a s' G', Led W G' L m news s' → G.StaysIn G' → G'.get? a = some (tupOf vs 0) → Q (.ref a) s') : wpAny (model pw W.w) A (newTuple vs) Q E s := by
  refine t_new D hz fun a s' D' => ?_
  obtain ⟨_, e, rfl⟩ := D'.get (.head _)
  obtain ⟨G', D₂, g, e'⟩ := gr_of D' e
  exact h a s' G' D₂ g e'
theorem newl {l : Addr} {P P2 : Obj → Prop} {rest : List (Addr × (Obj → Prop))} {s₀ : Heap} (D : Led W G L m ((l, P) :: (fx, P2) :: rest) s) (g : (hid s₀ [fx]).StaysIn G) : s₀.get? l = none := by
  have nd := D.nd
  simp only [List.map_cons, List.nodup_cons, List.mem_cons, not_or] at nd
  cases q : s₀.get? l with
  | none => rfl
  | some o =>
    have := g _ _ (hid_get (l := [fx]) q (by simpa using nd.1.1))
    rw [(D.nw _ (.head _)).2.2] at this; cases this
theorem kl_call {p1 p2 p4 : Pos} {ae : Expr} {qn : Str} {sc : Scope} {fa : Addr} {cd : Value} {ff : Addr} {fn : Str} (D : Led W G L m ((fx, isFd W rl B) :: news) s) (hv : lk m "feed" = some (.ref fx)) (hmg : nsIn (hd.heap_39 W.w.params) mainGlobals fn = some (some (.ref ff))) (hkp : keepIn (hd.heap_39 W.w.params) (.ref ff) = true)
    (hae : ∀ s', Led W G L m ((fx, isFd W rl B) :: news) s' → wpAny (model pw W.w) A (eval ae (envOf qn sc L fa cd)) (fun v s'' => Led W G L m ((fx, isFd W rl B) :: news) s'' ∧ wpAny (model pw W.w) A (call (.ref ff) [.ref fx, v]) Q E s'') E s')
    (hk : sc.kind = .function := by rfl) (h1 : (envOf qn sc L fa cd).kindOf fn = some .globalImplicit := by rfl) (h2 : (envOf qn sc L fa cd).kindOf "feed" = some .local := by rfl) (h3 : (fn == ("__debug__" : Str)) = false := by decide)
    (hs2 : starEach [ae] (envOf qn sc L fa cd) = (false, eval ae (envOf qn sc L fa cd)) :: starEach [] (envOf qn sc L fa cd) := by rfl) :
    wpAny (model pw W.w) A (eval (.Call (.Name fn p1) [.Name "feed" p2, ae] [] p4) (envOf qn sc L fa cd)) Q E s := by
  have hs3 : starEach [.Name "feed" p2, ae] (envOf qn sc L fa cd) = (false, eval (.Name "feed" p2) (envOf qn sc L fa cd)) :: starEach [ae] (envOf qn sc L fa cd) := by rfl
  refine Call_ (n_glb D (mg_some D.hs.st hmg) (callWith_K D.hs.X hkp (spliced_more (n_loc D hv (spliced_more (wpAny_mono (hae s D) (fun v s' h' => ?_) fun _ _ z => z) hs2) hk h2 (by decide)) hs3) hs3 (by rw [hs2]; rfl)) hk h1 h3)
  exact spliced_none ⟨h'.1.hs.X, h'.2⟩
theorem x_extend {o : Str} {p1 p2 p3 p4 : Pos} {ae : Expr} {rest : List Stmt} {l : Addr} {its : Array Value} {QF : Flow → Shared → Prop} {qn : Str} {sc : Scope} {fa : Addr} {cd : Value} {pl : Sem Bool} (D : Led W G L m (pre ++ (l, isL its) :: post) s) (hv : lk m o = some (.ref l)) 
    (h : wpAny (model pw W.w) A (eval ae (envOf qn sc L fa cd)) (fun v s₁ => ∃ G' m' pre' post' its' b its2 n2, v = .ref b ∧ Led W G' L m' (pre' ++ (l, isL its') :: post') s₁ ∧ s₁.heap.get? b = some (lstOf its2 n2) ∧ its'.size + its2.size ≤ sizeLine ∧ ∀ s₂, Led W G' L m' (pre' ++ (l, isL (its' ++ its2)) :: post') s₂ → wpAny (model pw W.w) A (execs rest (envOf qn sc L fa cd)) QF E s₂) E s)
    (hk : sc.kind = .function := by rfl) (hl : (envOf qn sc L fa cd).kindOf o = some .local := by rfl) (hd : (o == ("__debug__" : Str)) = false := by decide)
    (he : eval (.Call (.Attribute (.Name o p1) "extend" p2) [ae] [] p3) (envOf qn sc L fa cd) = (do let ov ← eval (.Name o p1) (envOf qn sc L fa cd); standAt p2.atName; let (f, first) ← holding [ov] (getMethod ov "extend" pl); callWith p3 f first (backTo p3 (starEach [ae] (envOf qn sc L fa cd))) []) := by with_unfolding_all rfl)
    (hs : starEach [ae] (envOf qn sc L fa cd) = (false, eval ae (envOf qn sc L fa cd)) :: starEach [] (envOf qn sc L fa cd) := by rfl)
    (hw : swapsWith (.Call (.Attribute (.Name o p1) "extend" p2) [ae] [] p3) none p4.line (envOf qn sc L fa cd) = pure false := by rfl) (hi : interactive (envOf qn sc L fa cd) = false := by rfl) :
    wpAny (model pw W.w) A (execs (.Expr (.Call (.Attribute (.Name o p1) "extend" p2) [ae] [] p3) p4 :: rest) (envOf qn sc L fa cd)) QF E s := by
  obtain ⟨n, e⟩ := isL_get (D.nw (l, isL its) (by simp)).1
  refine x_expr (l_meth (p1 := p1) PySem.F.slot_list_extend PySem.F.type_list_extend (n_loc D hv ⟨l, n, its, rfl, e, kb1 (spliced_more (wpAny_mono h (fun v s₁ h₁ => spliced_none ?_) fun _ _ z => z) hs) rfl hs rfl⟩ hk hl hd) he) hi hw
  refine hideP fun PH1 hPH1 => ?_
  obtain ⟨G', m', pre', post', its', b, its2, n2, rfl, D', hb, hz, hq⟩ := h₁
  subst hPH1
  exact l_extend D' hb hz hq
theorem lt_le (f : Nat) (h : f ≤ 5) : lt f ≤ 200 := by
  match f, h with
  | 0, _ | 1, _ | 2, _ | 3, _ | 4, _ | 5, _ => decide
inductive LtermI (W : Wd) (s : Shared) (I fx fl rl L : Addr) (B v f' : Nat) (tf : Tok) (i : Nat) (s' : Shared) : Prop
  | mk (wsI : List Str) (vals : List Value) (mI : List (Str × Value)) (G₁ : Heap) (_ : Led W G₁ L mI [(I, isRg i ((1 + v : Nat) - (i : Int)) 1), (fx, isFd W rl (B + 2 + i * ct f')), (fl, isL vals.toArray)] s') (_ : lk mI "feed" = some (.ref fx)) (_ : lk mI "floors" = some (.int (f' + 1 : Nat) tf)) (_ : lk mI "found" = some (.ref fl)) (_ : StrsAre vals wsI) (_ : Gw (f' + 1) (2 + i * lt f') 1 wsI) (_ : (hid s.heap [fx]).StaysIn G₁) : LtermI W s I fx fl rl L B v f' tf i s'
theorem c_lterm1 (f : Nat) (ih : ∀ f', f = f' + 1 → CLt W fx rl f') : CLt W fx rl f := by
  intro G s A B n tf E Q hs hdp hh R hG hf hB hf5 k
  obtain ⟨hs', st'⟩ := mv_dx hs hG
  have R := R.mono st'
  have hct : 1 ≤ ct f := by cases f <;> simp [ct] <;> lia
  have hct2 : f ≠ 0 → 4 ≤ ct f := by
    intro z
    cases f with
    | zero => exact absurd rfl z
    | succ f => have : 1 ≤ ct f := by cases f <;> simp [ct] <;> lia
                simp only [ct]; lia
  refine enterC [("floors", .int f tf), ("feed", .ref fx)] (news := [(fx, isFd W rl B)]) hs' (fun q hq => by rw [List.mem_singleton.mp hq]; exact ⟨hf, hid_none (.head _)⟩) (by simp) (by k_is) (by k_is) (show A.depth < 1000 by lia) rfl rfl rfl rfl rfl (by decide) fun L s₁ D stk hL => ?_
  refine hide fun Qe Ee hQe hEe => ?_
  have hd' : ∀ env, (A.deeper env).depth < recursionLimit := fun env => show A.depth + 1 < 1000 by lia
  refine x_asg (wpAny_mono (Q := fun v s' => ∃ (z : Nat) (t : Tok), v = .int z t ∧ (f = 0 → z = 0) ∧ Led W (hid s.heap [fx]) L [("floors", .int f tf), ("feed", .ref fx)] [(fx, isFd W rl (if f = 0 then B else B + 1))] s') (IfExp_ (wpAny_isTrue_Compare1 (n_loc D lk_hd (e_int D fun s₂ t₂ D₂ => gt_int (wpAny_truthy_bool ?_))))) (fun v s₃ h₃ => ?_) fun _ _ z => z)
  · by_cases hf0 : f = 0
    · subst hf0
      first | refine if_no rfl ?_ | rw [if_neg (by decide)]
      exact e_int D₂ fun s₃ t₃ D₃ => ⟨0, t₃, rfl, fun _ => rfl, by rw [if_pos rfl]; exact D₃⟩
    · first | refine if_yes (show decide ((0 : Int) < (f : Int)) = true from (by simpa using Nat.pos_of_ne_zero hf0)) ?_ | rw [show decide ((0 : Int) < (f : Int)) = true from by simpa using Nat.pos_of_ne_zero hf0, if_pos rfl]
      exact p_call (many := 4) D₂ R (lk_tl lk_hd) (hd' _) (by lia) (by decide) (fun s' D' => e_int D' fun s'' t'' D'' => ⟨t'', rfl, D''⟩) fun s' v t D' hv => ⟨v, t, rfl, fun z => absurd z hf0, by rw [if_neg hf0]; exact D'⟩
  refine hideP fun PH2 hPH2 => ?_
  obtain ⟨z, t, rfl, hz, D₃⟩ := h₃
  subst hPH2
  refine s_loc D₃ fun s₄ D₄ => ?_
  refine x_if (wpAny_isTrue_Compare1 (n_loc D₄ lk_hd (e_int D₄ fun s₅ t₅ D₅ => lt_int (wpAny_truthy_bool ?_))))
  by_cases hz3 : z < 3
  · first | refine if_yes (show decide ((z : Int) < 3) = true from (by simp; lia)) ?_ | rw [show decide ((z : Int) < 3) = true from by simp; lia, if_pos rfl]
    refine x_ret (List_ (spliced_more (Subscript_ ?_)))
    refine Tuple_ (spliced_more (e_str D₅ fun s₆ ta D₆ => spliced_more (e_str D₆ fun s₇ tb D₇ => spliced_more (e_str D₇ fun s₈ tc D₈ => spliced_none (t_gr D₈ (by size_fits) fun a s₉ G₉ D₉ g₉ ha => ?_)))))
    have hb2 : (if f = 0 then B else B + 1) + 1 ≤ B + ct f := by
      by_cases h0 : f = 0
      · rw [if_pos h0]; lia
      · rw [if_neg h0]; have := hct2 h0; lia
    refine p_call (many := 3) D₉ (R.mono g₉) (lk_tl (lk_tl lk_hd)) (hd' _) (by lia) (by decide) (fun s' D' => e_int D' fun s'' t'' D'' => ⟨t'', rfl, D''⟩) fun s₁₀ v tv D₁₀ hv => ?_
    obtain ⟨w, tw, hw, hwa⟩ : ∃ (w : Str) (tw : Tok), ([.str "a" ta, .str "b2" tb, .str "same" tc] : List Value)[v]? = some (.str w tw) ∧ w ∈ (["a", "b2", "same"] : List Str) := by
      match v, hv with
      | 0, _ => exact ⟨_, _, rfl, by simp⟩
      | 1, _ => exact ⟨_, _, rfl, by simp⟩
      | 2, _ => exact ⟨_, _, rfl, by simp⟩
    have hsi : seqIndex? (v : Int) 3 = some v := by
      match v, hv with
      | 0, _ => rfl
      | 1, _ => rfl
      | 2, _ => rfl
    refine tu_get (D₁₀.at ha) (by lia) (by lia) hsi hw ?_
    refine spliced_none (l_new D₁₀ (by size_fits) fun l s₁₁ D₁₁ => ?_)
    have hl := newl D₁₁ g₉
    have D₁₂ := D₁₁.lo g₉ hs'.top
    obtain ⟨ln, hln⟩ := isL_get (D₁₂.get (.head _))
    have hw1 : wt w = 0 ∧ w ∈ alpha := by
      simp only [List.mem_cons, List.not_mem_nil, or_false] at hwa
      rcases hwa with rfl | rfl | rfl <;> decide
    have gw := Gw.one hw1.2
    rw [hw1.1] at gw
    subst hQe; refine ret_v (k _ l [w] D₁₂.hs ((D₁₂.less (List.sublist_cons_self _ _)).fdw hb2 |>.get (.head _)) hl ⟨[.str w tw], ln, hln, .cons w tw .nil⟩ (gw.wk (by lia) (by cases f <;> simp [lt] <;> lia)))
  · first | refine if_no (show decide ((z : Int) < 3) = false from (by simp; lia)) ?_ | rw [show decide ((z : Int) < 3) = false from by simp; lia, if_neg (by decide)]
    refine x_nil (seq_next ?_)
    obtain ⟨f', rfl⟩ : ∃ f', f = f' + 1 := ⟨f - 1, by have : f ≠ 0 := fun h => hz3 (by rw [hz h]; lia); lia⟩
    rw [if_neg (by lia)] at D₅
    refine x_asg (List_ (spliced_more (e_str D₅ fun s₆ ta D₆ => spliced_more (e_str D₆ fun s₇ tb D₇ => spliced_none (l_new D₇ (by size_fits) fun fl s₈ D₈ => s_loc D₈ fun s₉ D₉ => ?_)))))
    have D₉ := D₉.perm (.swap _ _ _)
    refine x_forH fun Q₁ E₁ hQ₁ hE₁ => (Call_ (n_blt D₉ (mg_none hs.st fmg_range) rfl (kb1 (spliced_more (wpAny_BinOp (e_int D₉ fun s₁₀ t₁₀ D₁₀ => ?_))))))
    refine p_call (many := 2) D₁₀ R (lk_tl (lk_tl (lk_tl lk_hd))) (hd' _) (by lia) (by decide) (fun s' D' => e_int D' fun s'' t'' D'' => ⟨t'', rfl, D''⟩) fun s₁₁ v tv D₁₁ hv => ?_
    refine P.add_int (spliced_none ?_)
    rw [show ((1 : Int) + (v : Int)) = ((1 + v : Nat) : Int) from by lia]
    refine rg_new (D₁₁.tok _) (by lia) fun I s₁₂ D₁₂ => ?_
    refine ⟨LtermI W s I fx fl rl L B v f' tf, 1 + v, ?_, ?_, ?_⟩
    · refine ⟨["(", "f"], [.str "(" ta, .str "f" tb], [("found", .ref fl), ("way", .int z t), ("floors", .int (f' + 1 : Nat) tf), ("feed", .ref fx)], hid s.heap [fx], ?_, lk_tl (lk_tl (lk_tl lk_hd)), lk_tl (lk_tl lk_hd), lk_hd, .cons _ _ (.cons _ _ .nil), ?_, fun _ _ z => z⟩
      · rw [show ((1 + v : Nat) : Int) - ((0 : Nat) : Int) = ((1 + v : Nat) : Int) from by lia, show B + 2 + 0 * ct f' = B + 1 + 1 from by lia]
        exact D₁₂
      · have h1 := Gw.one (w := "(") (by decide)
        have h2 := Gw.one (w := "f") (by decide)
        have h3 := Gw.app (f := (f' + 1 : Nat)) h1 h2 (by rw [show wt "(" = 1 from by decide]; lia) (by rw [show wt "(" = 1 from by decide, show wt "f" = 0 from by decide]; lia)
        rw [show wt "(" = 1 from by decide, show wt "f" = 0 from by decide] at h3
        have h4 := h3.wk (f' := ((f' : Int) + 1)) (N' := 2 + 0 * lt f') (by lia) (by lia)
        exact h4
    · rintro s₁₃ ⟨wsI, vals, mI, G₁, D₁₃, l1, l2, l3, hS, gw, g₁⟩
      refine end_rg hh D₁₃ (by lia) fun s₁₄ D₁₄ => ⟨rfl, ?_⟩
      have hvl : vals.length ≤ 500 := by
        have h1 := strs_len hS
        have h2 := gw.len
        have h3 := lt_le f' (by lia)
        have h4 : (1 + v) * lt f' ≤ 2 * lt f' := Nat.mul_le_mul_right _ (by lia)
        lia
      refine x_ret (wpAny_BinOp (n_loc D₁₄ l3 (List_ (spliced_more (e_str D₁₄ fun s₁₅ tp D₁₅ => spliced_none (l_new D₁₅ (by size_fits) fun q s₁₆ D₁₆ => ?_))))))
      obtain ⟨nfl, hfl⟩ := isL_get (D₁₆.nw (fl, isL vals.toArray) (by simp)).1
      obtain ⟨nq, hq⟩ := isL_get (D₁₆.get (.head _))
      refine l_add D₁₆ hfl hq (by rw [sizeLine_eq]; simp; lia) fun a s₁₇ D₁₇ na => ?_
      have D₁₈ := (D₁₇.perm (news' := [(a, isL _), (fx, isFd W rl (B + 2 + (1 + v) * ct f')), (q, isL _), (fl, isL vals.toArray)]) (.cons _ (.swap _ _ _)))
      have hl := newl D₁₈ g₁
      have D₁₉ := D₁₈.lo g₁ hs'.top
      obtain ⟨na', ha⟩ := isL_get (D₁₉.get (.head _))
      have hc2 : (1 + v) * ct f' ≤ 2 * ct f' := Nat.mul_le_mul_right _ (by lia)
      have hl2 : (1 + v) * lt f' ≤ 2 * lt f' := Nat.mul_le_mul_right _ (by lia)
      have gw2 := Gw.app (f := ((f' + 1 : Nat) : Int)) gw (Gw.one (w := ")") (by decide)) (by lia) (by rw [show wt ")" = -1 from by decide]; lia)
      rw [show wt ")" = -1 from by decide] at gw2
      have e1 : B + 2 + (1 + v) * ct f' ≤ B + ct (f' + 1) := by show _ ≤ B + (2 + 2 * ct f'); lia
      have e2 : 2 + (1 + v) * lt f' + 1 ≤ lt (f' + 1) := by show _ ≤ 3 + 2 * lt f'; lia
      subst hQ₁
      subst hQe; refine ret_v (k _ a (wsI ++ [Str.ofString ")"]) D₁₉.hs (((D₁₉.less (List.sublist_cons_self _ _)).fdw e1).get (.head _)) hl ⟨vals ++ [.str ")" tp], na', ?_, strs_app hS (.cons _ _ .nil)⟩ (gw2.wk (Int.le_refl _) e2))
      rw [ha]
    · rintro B₁ T₁ hB₁ hT₁ i s₁₃ hi ⟨wsI, vals, mI, G₁, D₁₃, l1, l2, l3, hS, gw, g₁⟩
      refine nx_rg D₁₃ (by lia) fun s₁₄ t₁₄ D₁₄ => ⟨_, rfl, wpAny_of_eq (a := ()) rfl (wpAny_assign_Name (s_loc D₁₄ fun s₁₅ D₁₅ => ?_))⟩
      have D₁₅ := D₁₅.perm (.swap _ _ _)
      have hcl : i * ct f' + ct f' ≤ 2 * ct f' := by
        have : (i + 1) * ct f' ≤ 2 * ct f' := Nat.mul_le_mul_right _ (by lia)
        rw [Nat.add_mul, Nat.one_mul] at this; exact this
      have hB2 : B + (2 + 2 * ct f') ≤ 1000000 := by simpa [ct] using hB
      refine x_extend (pre := [(fx, isFd W rl (B + 2 + i * ct f')), (I, isRg ((i : Int) + 1) ((1 + v : Nat) - (i : Int) - 1) 1)]) D₁₅ (lk_tl l3) (kl_call D₁₅ (lk_tl l1) fmg_lterm k285 fun s₁₆ D₁₆ => ?_)
      refine wpAny_BinOp (n_loc D₁₆ (lk_tl l2) (e_int D₁₆ fun s₁₇ t₁₇ D₁₇ => PyProof.Rows.sub_int ⟨D₁₇.tok _, ?_⟩))
      rw [show (((f' + 1 : Nat) : Int) - 1) = (f' : Int) from by lia]
      have D₁₈ := D₁₇.tok (s₁₇.toks + 1)
      refine ih f' rfl _ _ _ _ 0 _ _ _ D₁₈.sH (show A.depth + 1 + f' + 2 ≤ 990 by lia) hh ((R.mono g₁).mono D₁₈.sG) sN (D₁₈.get (.head _)) (by lia) (by lia) fun s₁₉ lr wsr H₁₉ h₁₉ nl hSr gwr => ?_
      have D₁₉ := D₁₈.back1 (pre := []) H₁₉ h₁₉
      obtain ⟨vr, nr, hlr, hSr⟩ := hSr
      have h3 := lt_le f' (by lia)
      have hvl : vals.length + vr.length ≤ 1000 := by
        have h1 := strs_len hS
        have h2 := gw.len
        have h5 := strs_len hSr
        have h6 := gwr.len
        have h4 : i * lt f' ≤ 2 * lt f' := Nat.mul_le_mul_right _ (by lia)
        lia
      refine ⟨_, _, [(fx, isFd W rl (B + 2 + i * ct f' + ct f')), (I, isRg ((i : Int) + 1) ((1 + v : Nat) - (i : Int) - 1) 1)], [], vals.toArray, lr, vr.toArray, nr, rfl, D₁₉, hlr, by rw [sizeLine_eq]; simp; lia, fun s₂₀ D₂₀ => x_nil ?_⟩
      have D₂₀ := D₂₀.perm (.swap _ _ _)
      subst hB₁
      refine ⟨wsI ++ wsr, vals ++ vr, ("turn", .int i t₁₄) :: mI, G₁, ?_, lk_tl l1, lk_tl l2, lk_tl l3, strs_app hS hSr, ?_, g₁⟩
      · rw [show (((i + 1 : Nat) : Int)) = (i : Int) + 1 from by lia, show ((1 + v : Nat) : Int) - ((i : Int) + 1) = ((1 + v : Nat) : Int) - (i : Int) - 1 from by lia, show B + 2 + (i + 1) * ct f' = B + 2 + i * ct f' + ct f' from by rw [Nat.add_mul, Nat.one_mul]; lia, show (vals ++ vr).toArray = vals.toArray ++ vr.toArray from by simp]
        exact D₂₀
      · have := Gw.app (f := (f' : Int) + 1) gw gwr (by lia) (by lia)
        exact this.wk (by lia) (by rw [Nat.add_mul, Nat.one_mul]; lia)
theorem c_lterm : ∀ (f : Nat), CLt W fx rl f := by
  intro f
  induction f with
  | zero => exact c_lterm1 0 fun f' h => absurd h (by lia)
  | succ f ih => exact c_lterm1 (f + 1) fun f' h => (by obtain rfl : f' = f := (by lia); exact ih)
end
end Mine
end

section
open PySem PySem.W PyProof.Rows PySem.Calls PySem.Spec
set_option autoImplicit false
namespace Mine
section
variable {W : Wd} {G : Heap} {L : Addr} {m : List (Str × Value)} {news pre post : List (Addr × (Obj → Prop))} {s : Shared} {A : Around} {E : Value → Shared → Prop} {env : Env} {v : Value} {pos : Pos}
  {Q : Value → Shared → Prop}
theorem adjust_to (a n : Nat) (ha : a ≤ n) : Builtin.Slice.sliceAdjust none (some (a : Int)) 1 (n : Int) = ((0 : Int), (a : Int)) := by
  unfold Builtin.Slice.sliceAdjust
  have h1 : ¬ ((1 : Int) < 0) := by lia
  have h2 : ¬ ((a : Int) < 0) := by lia
  simp only [h1, h2, if_false]
  congr 1
  lia
theorem places_to (a : Nat) : Builtin.Slice.slicePlaces (0 : Int) (a : Int) 1 = a := by
  unfold Builtin.Slice.slicePlaces
  have h1 : (1 : Int) > 0 := by lia
  simp only [h1, if_true, Int.ediv_one]
  split <;> lia
theorem applied_to {sl : Addr} {a n : Nat} {u : Tok} {Q : Int × Int × Nat → Shared → Prop} (hs : s.heap.IsSliceOf sl .none (.int a u) .none) (ha : a ≤ n) (h : Q ((0 : Int), 1, a) s) :
    wpAny (model pw W.w) A (Builtin.Slice.sliceApplied (.ref sl) (pure (n : Int))) Q E s := by
  obtain ⟨os, hos, hcs, hds⟩ := id hs
  unfold Builtin.Slice.sliceApplied Builtin.Slice.sliceFields
  refine wpAny_bind (wpAny_bind (wpAny_field hos hds (x := .none) rfl (wpAny_bind (wpAny_field hos hds (x := .int a u) rfl (wpAny_bind (wpAny_field hos hds (x := .none) rfl (wpAny_pure ?_)))))))
  refine wpAny_bind (slicePart_none ?_)
  show wpAny _ _ (if ((1 : Int) == 0) = true then _ else _) _ _ s
  first | refine if_no rfl ?_ | rw [if_neg (by decide)]
  refine wpAny_bind (slicePart_none (wpAny_bind (slicePart_int (wpAny_bind (wpAny_pure ?_)))))
  show wpAny _ _ (match Builtin.Slice.sliceAdjust none (some (a : Int)) 1 (n : Int) with | (lo, hi) => pure (lo, (1 : Int), Builtin.Slice.slicePlaces lo hi 1)) _ _ s
  rw [adjust_to a n ha]
  show wpAny _ _ (pure ((0 : Int), (1 : Int), Builtin.Slice.slicePlaces (0 : Int) (a : Int) 1)) _ _ s
  rw [places_to]
  exact wpAny_pure h
theorem item_to {t sl : Addr} {vs : List Value} {a n : Nat} {u : Tok} (ht : s.heap.get? t = some (tupOf vs n)) (hs : s.heap.IsSliceOf sl .none (.int a u) .none) (ha : a ≤ vs.length) (hz : vs.length ≤ 1000)
    (h1 : a = vs.length → Q (.ref t) s) (h2 : a < vs.length → Q (.ref s.heap.objs.size) { s with heap := s.heap.push (tupOf (vs.take a) 0) }) : wpAny (model pw W.w) A (getItem (.ref t) (.ref sl)) Q E s := by
  have hT := isTup_of ht
  obtain ⟨os, hos, hcs, hds⟩ := id hs
  have hTs : s.TypeIs (.ref sl) "slice" := ⟨os, hos, hcs⟩
  unfold getItem
  try with_reducible refine wpAny_holding ?_
  first | refine wpAny_bind (wpAny_pure ?_) | skip
  refine wpAny_bind (wpAny_sequenceKey hT.typeIs (by decide) ?_)
  refine wpAny_bind (wpAny_callSpecial?_slot (name := Str.ofString "__getitem__") hT.typeIs slot_tuple_getitem
    (wpAny_call_entry slot_tuple_getitem hT.typeIs entry_tuple_getitem ?_ (args_tuple_getitem _ _)))
  show wpAny _ _ (Builtin.Tuple.tupleItemsOf (.ref t) >>= _) _ _ s
  refine wpAny_bind (tupleItemsOf_ hT ?_)
  refine wpAny_bind (wpAny_typeOf hTs ?_)
  first | refine if_yes rfl ?_ | rw [if_pos (by decide)]
  refine wpAny_bind (applied_to (n := vs.length) hs ha ?_)
  by_cases hf : a = vs.length
  · have hc : (((0 : Int)) == 0 && (1 : Int) == 1 && a == vs.toArray.size) = true := by simp [hf]
    show wpAny _ _ (if (((0 : Int)) == 0 && (1 : Int) == 1 && a == vs.toArray.size) = true then _ else _) _ _ s
    rw [if_pos hc]
    have ex : wpAny (model pw W.w) A.in1 (Builtin.Tuple.tupleIsExact (.ref t)) (fun b s' => b = true ∧ s' = s) (fun _ _ => False) s := by
      unfold Builtin.Tuple.tupleIsExact
      repeat (first | (with_reducible refine wpAny_loadPart ht ?_) | (with_reducible refine wpAny_load ht ?_) | wp_step)
      exact ⟨by simp, rfl⟩
    refine wpAny_bind (wpAny_mono ex (fun b s' h' => ?_) fun _ _ z => z.elim)
    obtain ⟨rfl, rfl⟩ := h'
    first | refine if_yes rfl ?_ | rw [if_pos rfl]
    exact wpAny_bind (wpAny_rule (wpAny_pure ⟨_, rfl, wpAny_pure (h1 hf)⟩))
  · have hc : ¬ ((((0 : Int)) == 0 && (1 : Int) == 1 && a == vs.toArray.size) = true) := by simp [hf]
    show wpAny _ _ (if (((0 : Int)) == 0 && (1 : Int) == 1 && a == vs.toArray.size) = true then _ else _) _ _ s
    rw [if_neg hc]
    have hp : ((List.range a).filterMap fun (k : Nat) => vs.toArray[((0 : Int) + (k : Int) * 1).toNat]?).toArray = (vs.take a).toArray := by
      have e : (fun (k : Nat) => vs.toArray[((0 : Int) + (k : Int) * 1).toNat]?) = fun k => vs.toArray[0 + k]? := by
        funext k
        rw [show ((0 : Int) + (k : Int) * 1).toNat = 0 + k from by lia]
      rw [e]
      have h5 := pick_run vs.toArray 0 a
      rw [List.filterMap_map] at h5
      have e2 : ((fun x => vs.toArray[x]?) ∘ fun x => 0 + x) = fun k => vs.toArray[0 + k]? := rfl
      rw [e2] at h5
      rw [h5]; simp
    rw [hp]
    have hd : sizeOk (.seq (vs.take a).toArray) := by
      show (vs.take a).toArray.size ≤ sizeLine
      rw [List.size_toArray, List.length_take, sizeLine_eq]; lia
    have hq := h2 (by lia)
    first
      | exact wpAny_bind (m := Builtin.Tuple.tupleExact _) (wpAny_newObj_type (wpAny_pure ⟨_, rfl, wpAny_pure hq⟩) hd)
      | exact wpAny_bind (m := Builtin.Tuple.tupleExact _) (wpAny_newObj_type (wpAny_bind (wpAny_pure (wpAny_pure ⟨_, rfl, wpAny_pure hq⟩))) hd)
      | exact wpAny_bind (wpAny_bind (m := Builtin.Tuple.tupleExact _) (wpAny_newObj_type (wpAny_pure (wpAny_pure ⟨_, rfl, wpAny_pure hq⟩)) hd))
      | exact wpAny_bind (wpAny_bind (m := Builtin.Tuple.tupleExact _) (wpAny_newObj_type (wpAny_pure ⟨_, rfl, wpAny_pure hq⟩) hd))
/-- t[:k] of a tuple in the ground -/
theorem tu_to {value slice : Expr} {t sl : Addr} {vs : List Value} {a n : Nat} {u : Tok} (D : Led W G L m news s) (ht : s.heap.get? t = some (tupOf vs n)) (hs : s.heap.IsSliceOf sl .none (.int a u) .none) (ha : a ≤ vs.length) (hz : vs.length ≤ 1000)
    (h : ∀ b s' G' n', Led W G' L m news s' → G.StaysIn G' → s'.heap.get? b = some (tupOf (vs.take a) n') → (G.get? t = some (tupOf vs n) → G'.get? b = some (tupOf (vs.take a) n')) → Q (.ref b) s')
    (he : subscripted slice false (.ref t) (.ref sl) = operate [.ref sl, .ref t] (getItem (.ref t) (.ref sl)) := by with_unfolding_all rfl) :
    wpAny (model pw W.w) A (subscriptTail value slice (.ref t) (.ref sl)) Q E s := by
  refine tail_any (isTup_of ht).typeIs slot_tuple_getitem.lookup (item_to ht hs ha hz (fun e => ?_) fun e => ?_) he
  · refine h t s G n D (fun _ _ z => z) (by rw [e, List.take_length]; exact ht) fun z => by rw [e, List.take_length]; exact z
  · have D' := D.push (tupOf (vs.take a) 0) (· = tupOf (vs.take a) 0) rfl rfl
    obtain ⟨_, e', rfl⟩ := D'.get (.head _)
    obtain ⟨G', D₂, g, e2⟩ := gr_of D' e'
    exact h _ _ G' 0 D₂ g e' fun _ => e2
end
end Mine
end

section
open PySem PySem.W PyProof.Rows PySem.Calls PySem.Spec
set_option autoImplicit false
namespace Mine
theorem warmse (w : World) (h : Heap) : (hd.heap_39 w.params).In h → PySem.Challenge.rw_rh0003_01.prog = PySem.Challenge.rw_rh0003_01.prog := by
  k_fill
  intro _
  rfl
section
variable {W : Wd} {G : Heap} {L : Addr} {m : List (Str × Value)} {news pre post : List (Addr × (Obj → Prop))} {s : Shared} {A : Around} {E : Value → Shared → Prop} {env : Env} {v : Value} {pos : Pos}
  {Q : Value → Shared → Prop} {fx rl : Addr} {fs : List Env} {n B : Nat}
theorem fmg_lpaper : nsIn (hd.heap_39 W.w.params) mainGlobals "_law_paper" = some (some (.ref 292)) := by k_is
theorem k292 : keepIn (hd.heap_39 W.w.params) (.ref 292) = true := by k_is
noncomputable def lp : Nat → Nat
  | 0 => 16
  | f + 1 => 4 + 3 * lp f
noncomputable def cp : Nat → Nat
  | 0 => 13
  | f + 1 => 13 + 3 * cp f
theorem lp_ge : ∀ f, 16 ≤ lp f
  | 0 => Nat.le_refl _
  | f + 1 => by have := lp_ge f; simp only [lp]; lia
noncomputable def CLp (W : Wd) (fx rl : Addr) (f : Nat) : Prop := ∀ (G : Heap) (s : Shared) (A : Around) (B : Nat) (tf : Tok) (E Q : Value → Shared → Prop), Hs W G s → A.depth + f + 10 ≤ 990 → A.handled = none → Row G fx rl → G.get? fx = none → (∃ o, s.heap.get? fx = some o ∧ isFd W rl B o) → B + cp f ≤ 1000000 → f ≤ 2 →
    (∀ s' l ws, Hs W (hid s.heap [fx]) s' → (∃ o, s'.heap.get? fx = some o ∧ isFd W rl (B + cp f) o) → s.heap.get? l = none → StrL s'.heap l ws → Gw (f + 3) (lp f) 0 ws → 2 ≤ ws.length → Q (.ref l) s') →
    wpAny (model pw W.w) A (call (.ref 292) [.ref fx, .int f tf]) Q E s
noncomputable def kd6 : List Str := ["same", "told", "rule", "turn", "join", "under"]
theorem six {z : Nat} (h : z < 6) : seqIndex? (z : Int) 6 = some z := by
  rcases z with _ | _ | _ | _ | _ | _ | z <;> first | rfl | lia
theorem kd_at {z : Nat} (t1 t2 t3 t4 t5 t6 : Tok) (h : z < 6) : ∃ (w : Str) (tw : Tok), ([.str "same" t1, .str "told" t2, .str "rule" t3, .str "turn" t4, .str "join" t5, .str "under" t6] : List Value)[z]? = some (.str w tw) ∧ kd6[z]? = some w := by
  rcases z with _ | _ | _ | _ | _ | _ | z <;> first | exact ⟨_, _, rfl, rfl⟩ | lia
theorem lp_le {f : Nat} (h : f ≤ 2) : lp f ≤ 1000 := by
  rcases f with _ | _ | _ | f <;> first | decide | lia
noncomputable abbrev OnlyN (J : Shared → Prop) (f : Flow) (s : Shared) : Prop := f = .next ∧ J s
theorem x_ifJ {test : Expr} {body rest : List Stmt} {p0 : Pos} {QF : Flow → Shared → Prop} (J : Shared → Prop)
    (h : ∀ J', J' = J → wpAny (model pw W.w) A (isTrue test env (eval test env)) (fun b s₂ => if b = true then wpAny (model pw W.w) A (execs body env) (OnlyN J') E s₂ else J' s₂) E s)
    (hr : ∀ s', J s' → wpAny (model pw W.w) A (execs rest env) QF E s') : wpAny (model pw W.w) A (execs (.If test body [] p0 :: rest) env) QF E s := by
  replace h := h J rfl
  refine x_if (wpAny_mono h (fun b s₂ h₂ => ?_) fun _ _ z => z)
  cases b with
  | true =>
    rw [if_pos rfl] at h₂ ⊢
    refine wpAny_mono h₂ (fun f s' h' => ?_) fun _ _ z => z
    obtain ⟨rfl, h'⟩ := h'
    exact seq_next (hr _ h')
  | false =>
    rw [if_neg (by decide)] at h₂ ⊢
    exact x_nil (seq_next (hr _ h₂))
theorem two_at (t1 t2 : Tok) {v : Nat} (h : v < 2) : ∃ (w : Str) (tw : Tok), ([.str "r1" t1, .str "turn" t2] : List Value)[v]? = some (.str w tw) ∧ (w ∈ alpha ∧ wt w = 0) := by
  rcases v with _ | _ | v
  · exact ⟨_, _, rfl, by decide⟩
  · exact ⟨_, _, rfl, by decide⟩
  · lia
theorem two_atY (t1 t2 : Tok) {v : Nat} (h : v < 2) : ∃ (w : Str) (tw : Tok), ([.str "?y" t1, .str "?x" t2] : List Value)[v]? = some (.str w tw) ∧ (w ∈ alpha ∧ wt w = 0) := by
  rcases v with _ | _ | v
  · exact ⟨_, _, rfl, by decide⟩
  · exact ⟨_, _, rfl, by decide⟩
  · lia
theorem two_ix {v : Nat} (h : v < 2) : seqIndex? (v : Int) 2 = some v := by
  rcases v with _ | _ | v
  · rfl
  · rfl
  · lia
theorem Led.tupG {a : Addr} {vs : List Value} {k : Nat} (D : Led W G L m news s) (hn : ∀ p ∈ news, ∀ o, p.2 o → notTup o) (e : s.heap.get? a = some (tupOf vs k)) : (hid s.heap (L :: news.map (·.1))).get? a = some (tupOf vs k) := by
  refine hid_get e fun hm => ?_
  rcases List.mem_cons.mp hm with rfl | hm
  · obtain ⟨m₀, ⟨o, es, ep, ho, hd, _⟩, _⟩ := D.ns
    rw [ho] at e; cases e; cases hd
  · obtain ⟨p, hp, rfl⟩ := List.mem_map.mp hm
    obtain ⟨o, ho, hP⟩ := D.get hp
    rw [ho] at e; cases e
    exact hn p hp _ hP _ _ rfl
inductive LpJ1 (W : Wd) (L fx fl rl : Addr) (z : Nat) (t : Tok) (f : Nat) (tf : Tok) (B : Nat) (G₁₀ : Heap) (s' : Shared) : Prop
  | mk (vals : List Value) (ws : List Str) (G' : Heap) (_ : Led W G' L [("found", .ref fl), ("way", .int z t), ("floors", .int f tf), ("feed", .ref fx)] [(fx, isFd W rl (B + 2)), (fl, isL vals.toArray)] s') (_ : StrsAre vals ws) (_ : Gw 1 3 1 ws) (_ : G₁₀.StaysIn G') : LpJ1 W L fx fl rl z t f tf B G₁₀ s'
inductive LpJ2 (W : Wd) (L fx fl rl : Addr) (z : Nat) (t : Tok) (f : Nat) (tf : Tok) (B : Nat) (Ga : Heap) (s' : Shared) : Prop
  | mk (vals : List Value) (ws : List Str) (G' : Heap) (_ : Led W G' L [("found", .ref fl), ("way", .int z t), ("floors", .int f tf), ("feed", .ref fx)] [(fx, isFd W rl (if z = 2 then B + 11 else B + 2)), (fl, isL vals.toArray)] s') (_ : StrsAre vals ws) (_ : Gw 2 (if z = 2 then 15 else 3) 1 ws) (_ : Ga.StaysIn G') : LpJ2 W L fx fl rl z t f tf B Ga s'
inductive LpJ3 (W : Wd) (L fx fl rl : Addr) (z : Nat) (t : Tok) (f : Nat) (tf : Tok) (B : Nat) (Gb : Heap) (s' : Shared) : Prop
  | mk (vals : List Value) (ws : List Str) (G' : Heap) (_ : Led W G' L [("found", .ref fl), ("way", .int z t), ("floors", .int f tf), ("feed", .ref fx)] [(fx, isFd W rl (B + cp f)), (fl, isL vals.toArray)] s') (_ : StrsAre vals ws) (_ : Gw (f + 3) (lp f - 1) 1 ws) (_ : Gb.StaysIn G') : LpJ3 W L fx fl rl z t f tf B Gb s'
inductive LpI1 (W : Wd) (L I tb fx fl rl : Addr) (z : Nat) (t : Tok) (f : Nat) (tf : Tok) (B : Nat) (G₂₀ : Heap) (i : Nat) (s' : Shared) : Prop
  | mk (vals : List Value) (ws : List Str) (mI : List (Str × Value)) (G' : Heap) (_ : Led W G' L mI [(I, isIt "tuple_iterator" (.ref tb) i), (fx, isFd W rl (B + 3 + i * 4)), (fl, isL vals.toArray)] s') (_ : lk mI "feed" = some (.ref fx)) (_ : lk mI "floors" = some (.int f tf)) (_ : lk mI "found" = some (.ref fl)) (_ : lk mI "way" = some (.int z t)) (_ : StrsAre vals ws) (_ : Gw 2 (3 + i * 6) 1 ws) (_ : G₂₀.StaysIn G') : LpI1 W L I tb fx fl rl z t f tf B G₂₀ i s'
inductive LpI2 (W : Wd) (L I fx fl rl : Addr) (z : Nat) (t : Tok) (f' : Nat) (tf : Tok) (B c : Nat) (Gb : Heap) (i : Nat) (s' : Shared) : Prop
  | mk (vals : List Value) (ws : List Str) (mI : List (Str × Value)) (G' : Heap) (_ : Led W G' L mI [(I, isRg i ((c : Int) - (i : Int)) 1), (fx, isFd W rl (B + 3 + i * cp f')), (fl, isL vals.toArray)] s') (_ : lk mI "feed" = some (.ref fx)) (_ : lk mI "floors" = some (.int (f' + 1 : Nat) tf)) (_ : lk mI "found" = some (.ref fl)) (_ : lk mI "way" = some (.int z t)) (_ : StrsAre vals ws) (_ : Gw (f' + 4) (3 + i * lp f') 1 ws) (_ : Gb.StaysIn G') : LpI2 W L I fx fl rl z t f' tf B c Gb i s'
theorem c_lpaper1 (f : Nat) (ih : ∀ f', f = f' + 1 → CLp W fx rl f') : CLp W fx rl f := by
  intro G s A B tf E Q hs hdp hh R hG hf hB hf2 k
  obtain ⟨hs', st'⟩ := mv_dx hs hG
  have R := R.mono st'
  have hcp : 13 ≤ cp f := by cases f <;> simp [cp] <;> lia
  refine enterC [("floors", .int f tf), ("feed", .ref fx)] (news := [(fx, isFd W rl B)]) hs' (fun q hq => by rw [List.mem_singleton.mp hq]; exact ⟨hf, hid_none (.head _)⟩) (by simp) (by k_is) (by k_is) (show A.depth < 1000 by lia) rfl rfl rfl rfl rfl (by decide) fun L s₁ D stk hL => ?_
  refine hide fun Qe Ee hQe hEe => ?_
  have hd' : ∀ env, (A.deeper env).depth < recursionLimit := fun env => show A.depth + 1 < 1000 by lia
  refine x_asg (wpAny_mono (Q := fun v s' => ∃ (z : Nat) (t : Tok), v = .int z t ∧ (f = 0 → z < 3) ∧ z < 6 ∧ Led W (hid s.heap [fx]) L [("floors", .int f tf), ("feed", .ref fx)] [(fx, isFd W rl (B + 1))] s') (IfExp_ (wpAny_isTrue_Compare1 (n_loc D lk_hd (e_int D fun s₂ t₂ D₂ => gt_int (wpAny_truthy_bool ?_))))) (fun v s₃ h₃ => ?_) fun _ _ z => z)
  · by_cases hf0 : f = 0
    · subst hf0
      first | refine if_no rfl ?_ | rw [if_neg (by decide)]
      exact p_call (many := 3) D₂ R (lk_tl lk_hd) (hd' _) (by lia) (by decide) (fun s' D' => e_int D' fun s'' t'' D'' => ⟨t'', rfl, D''⟩) fun s' v t D' hv => ⟨v, t, rfl, fun _ => hv, by lia, D'⟩
    · first | refine if_yes (show decide ((0 : Int) < (f : Int)) = true from (by simpa using Nat.pos_of_ne_zero hf0)) ?_ | rw [show decide ((0 : Int) < (f : Int)) = true from by simpa using Nat.pos_of_ne_zero hf0, if_pos rfl]
      exact p_call (many := 6) D₂ R (lk_tl lk_hd) (hd' _) (by lia) (by decide) (fun s' D' => e_int D' fun s'' t'' D'' => ⟨t'', rfl, D''⟩) fun s' v t D' hv => ⟨v, t, rfl, fun z => absurd z hf0, hv, D'⟩
  refine hideP fun PH1 hPH1 => ?_
  obtain ⟨z, t, rfl, hz0, hz6, D₃⟩ := h₃
  subst hPH1
  refine s_loc D₃ fun s₄ D₄ => ?_
  refine x_asg ?_
  refine List_ ?_
  refine spliced_more (e_str D₄ fun s₅ to D₅ => ?_)
  refine spliced_more ?_
  refine Subscript_ ?_
  refine Tuple_ ?_
  refine spliced_more (e_str D₅ fun s₆ t1 D₆ => ?_)
  refine spliced_more (e_str D₆ fun s₇ t2 D₇ => ?_)
  refine spliced_more (e_str D₇ fun s₈ t3 D₈ => ?_)
  refine spliced_more (e_str D₈ fun s₆ t4 D₆ => ?_)
  refine spliced_more (e_str D₆ fun s₇ t5 D₇ => ?_)
  refine spliced_more (e_str D₇ fun s₉ t6 D₉ => ?_)
  refine spliced_none ?_
  refine t_gr D₉ (by size_fits) fun a s₁₀ G₁₀ D₁₀ g₁₀ ha => ?_
  refine n_loc D₁₀ lk_hd ?_
  obtain ⟨w, tw, hw, hwz⟩ := kd_at t1 t2 t3 t4 t5 t6 hz6
  have hsi := six hz6
  refine tu_get (D₁₀.at ha) (by lia) (by lia) hsi hw ?_
  refine spliced_none (l_new D₁₀ (by size_fits) fun fl s₁₁ D₁₁ => s_loc D₁₁ fun s₁₂ D₁₂ => ?_)
  have hwal : w ∈ alpha ∧ wt w = 0 := by
    have hm : w ∈ kd6 := List.mem_of_getElem? hwz
    simp only [kd6, List.mem_cons, List.not_mem_nil, or_false] at hm
    rcases hm with rfl | rfl | rfl | rfl | rfl | rfl <;> decide
  have gw0 : Gw (1 : Int) 2 1 [Str.ofString "(", w] := by
    have h1 := Gw.one (w := "(") (by decide)
    have h2 := Gw.one hwal.1
    rw [show wt "(" = 1 from by decide] at h1
    rw [hwal.2] at h2
    have h3 := Gw.app (f := 1) h1 h2 (by lia) (by lia)
    exact h3
  have hcl : hid s.heap [fx] = hid s.heap [fx] := rfl
  have D₁₂ := D₁₂.perm (.swap _ _ _)
  refine x_if ?_
  refine wpAny_isTrue_Compare1 ?_
  refine n_loc D₁₂ (lk_tl lk_hd) ?_
  refine e_int D₁₂ fun s₁₃ t₁₃ D₁₃ => ?_
  refine eq_int (wpAny_truthy_bool ?_)
  by_cases h0 : z = 0
  · first | refine if_yes (show ((z : Int) == 0) = true from (by simp [h0])) ?_ | rw [show ((z : Int) == 0) = true from by simp [h0], if_pos rfl]
    refine x_ret ?_
    refine wpAny_BinOp ?_
    refine wpAny_BinOp ?_
    refine n_loc D₁₃ lk_hd ?_
    refine kl_call D₁₃ (lk_tl (lk_tl (lk_tl lk_hd))) fmg_lterm k285 fun s₁₄ D₁₄ => ?_
    refine e_int D₁₄ fun s₁₅ t₁₅ D₁₅ => ⟨D₁₅, ?_⟩
    refine c_lterm 2 _ _ _ _ 0 _ _ _ D₁₅.sH (show A.depth + 1 + 2 + 2 ≤ 990 by lia) hh ((R.mono g₁₀).mono D₁₅.sG) sN (D₁₅.get (.head _)) (show B + 1 + 10 ≤ 1000000 by lia) (by lia) fun s₁₆ lr wsr H₁₆ h₁₆ nl hSr gwr => ?_
    have D₁₆ := D₁₅.back1 (pre := []) H₁₆ h₁₆
    obtain ⟨vr, nr, hlr, hSr⟩ := hSr
    obtain ⟨nfl, hfl⟩ := isL_get (D₁₆.nw (fl, isL _) (.tail _ (.head _))).1
    have hvr : vr.length ≤ 13 := by rw [strs_len hSr]; exact gwr.len
    refine l_add D₁₆ hfl hlr (by rw [sizeLine_eq]; simp; lia) fun a1 s₁₇ D₁₇ na1 => ?_
    refine List_ ?_
    refine spliced_more (e_str D₁₇ fun s₁₈ tq D₁₈ => ?_)
    refine spliced_none (l_new D₁₈ (by size_fits) fun q s₁₉ D₁₉ => ?_)
    obtain ⟨n1, ha1⟩ := isL_get (D₁₉.nw _ (.tail _ (.head _))).1
    obtain ⟨n2, hq⟩ := isL_get (D₁₉.get (.head _))
    refine l_add D₁₉ ha1 hq (by rw [sizeLine_eq]; simp; lia) fun a2 s₂₀ D₂₀ na2 => ?_
    have D₂₁ := D₂₀.perm (news' := [(a2, isL _), (fx, isFd W rl (B + 1 + ct 2)), (q, isL _), (a1, isL _), (fl, isL _)]) (.cons _ (.trans (.cons _ (.swap _ _ _)) (.swap _ _ _)))
    have hl := newl D₂₁ g₁₀
    have D₂₂ := D₂₁.lo g₁₀ hs'.top
    obtain ⟨n3, ha2⟩ := isL_get (D₂₂.get (.head _))
    have g1 := Gw.app (f := 3) gw0 gwr (by lia) (by lia)
    have g2 := Gw.app (f := 3) g1 (Gw.one (w := ")") (by decide)) (by lia) (by rw [show wt ")" = -1 from by decide]; lia)
    rw [show wt ")" = -1 from by decide] at g2
    have e1 : B + 1 + ct 2 ≤ B + cp f := by show B + 1 + 10 ≤ _; lia
    have e2 : 2 + 13 + 1 ≤ lp f := lp_ge f
    subst hQe; refine seq_ret (ret_v (k _ a2 _ D₂₂.hs (((D₂₂.less (List.sublist_cons_self _ _)).fdw e1).get (.head _)) hl ⟨_, n3, ha2, ?_⟩ (g2.wk (by lia) e2) (by simp only [List.length_append, List.length_cons, List.length_nil]; lia)))
    exact strs_app (strs_app (.cons _ _ (.cons _ _ .nil)) hSr) (.cons _ _ .nil)
  · first | refine if_no (show ((z : Int) == 0) = false from (by simp; lia)) ?_ | rw [show ((z : Int) == 0) = false from by simp; lia, if_neg (by decide)]
    refine x_nil (seq_next ?_)
    refine x_ifJ (J := LpJ1 W L fx fl rl z t f tf B G₁₀) ?_ fun s₁₄ h₁₄ => ?_
    · intro J1 hJ1
      refine wpAny_isTrue_Compare1 ?_
      refine n_loc D₁₃ (lk_tl lk_hd) ?_
      refine Tuple_ ?_
      refine spliced_more (e_int D₁₃ fun s₁₄ u1 D₁₄ => ?_)
      refine spliced_more (e_int D₁₄ fun s₁₅ u2 D₁₅ => ?_)
      refine spliced_more (e_int D₁₅ fun s₁₆ u3 D₁₆ => ?_)
      refine spliced_none ?_
      refine t_gr D₁₆ (by size_fits) fun tt s₁₇ G₁₇ D₁₇ g₁₇ htt => ?_
      refine in_tuple_ints (isTup_of (D₁₇.at htt)) (ns := [1, 2, 5]) (.cons _ _ (.cons _ _ (.cons _ _ .nil))) ?_
      refine wpAny_truthy_bool ?_
      generalize ([1, 2, 5] : List Int).any (fun x => x == (z : Int)) = bb
      cases bb with
      | false =>
        first | refine if_no rfl ?_ | rw [if_neg (by decide)]
        subst hJ1
        exact ⟨_, _, G₁₇, D₁₇.fdw (by lia), .cons _ _ (.cons _ _ .nil), gw0.wk (Int.le_refl _) (by lia), g₁₇⟩
      | true =>
        first | refine if_yes rfl ?_ | rw [if_pos rfl]
        refine x_append (pre := [(fx, isFd W rl (B + 1))]) D₁₇ lk_hd ?_
        refine Subscript_ ?_
        refine Tuple_ ?_
        refine spliced_more (e_str D₁₇ fun s₁₈ w1 D₁₈ => ?_)
        refine spliced_more (e_str D₁₈ fun s₁₉ w2 D₁₉ => ?_)
        refine spliced_none ?_
        refine t_gr D₁₉ (by size_fits) fun t2 s₂₀ G₂₀ D₂₀ g₂₀ ht2 => ?_
        refine p_call (many := 2) D₂₀ (((R.mono g₁₀).mono g₁₇).mono g₂₀) (lk_tl (lk_tl (lk_tl lk_hd))) (hd' _) (by lia) (by decide) (fun s' D' => e_int D' fun s'' t'' D'' => ⟨t'', rfl, D''⟩) fun s₂₁ v tv D₂₁ hv => ?_
        obtain ⟨w3, tw3, hw3, hw3a⟩ := two_at w1 w2 hv
        refine tu_get (D₂₁.at ht2) (by lia) (by lia) (two_ix hv) hw3 ?_
        refine ⟨G₂₀, _, [(fx, isFd W rl (B + 1 + 1))], [], _, D₂₁, by size_fits, fun s₂₂ D₂₂ => x_nil ⟨rfl, ?_⟩⟩
        have g3 := Gw.app (f := 1) gw0 (Gw.one hw3a.1) (by lia) (by rw [hw3a.2]; lia)
        rw [hw3a.2] at g3
        subst hJ1
        exact ⟨[.str "(" to, .str w tw, .str w3 tw3], _, G₂₀, D₂₂, .cons _ _ (.cons _ _ (.cons _ _ .nil)), g3.wk (Int.le_refl _) (by lia), fun b o e => g₂₀ b o (g₁₇ b o e)⟩
    refine hideP fun PH2 hPH2 => ?_
    obtain ⟨va, wa, Ga, Da, hSa, gwa, gGa⟩ := h₁₄
    subst hPH2
    have Ra := (R.mono g₁₀).mono gGa
    refine x_ifJ (J := LpJ2 W L fx fl rl z t f tf B Ga) ?_ fun s₁₅ h₁₅ => ?_
    · intro J2 hJ2
      refine wpAny_isTrue_Compare1 ?_
      refine n_loc Da (lk_tl lk_hd) ?_
      refine e_int Da fun s₁₅ u1 D₁₅ => ?_
      refine eq_int (wpAny_truthy_bool ?_)
      by_cases h2 : z = 2
      · first | refine if_yes (show ((z : Int) == 2) = true from (by simp [h2])) ?_ | rw [show ((z : Int) == 2) = true from by simp [h2], if_pos rfl]
        skip
        refine x_forH fun Q₁ E₁ hQ₁ hE₁ => ?_
        refine Subscript_ ?_
        refine Tuple_ ?_
        refine spliced_more (e_str D₁₅ fun s₁₆ w1 D₁₆ => ?_)
        refine spliced_more (e_str D₁₆ fun s₁₇ w2 D₁₇ => ?_)
        refine spliced_none ?_
        refine t_gr D₁₇ (by size_fits) fun t2 s₁₈ G₁₈ D₁₈ g₁₈ ht2 => ?_
        refine wpAny_Slice (ep_none (ep_some ?_))
        refine p_call (many := 3) D₁₈ (Ra.mono g₁₈) (lk_tl (lk_tl (lk_tl lk_hd))) (hd' _) (by lia) (by decide) (fun s' D' => e_int D' fun s'' t'' D'' => ⟨t'', rfl, D''⟩) fun s₁₉ v tv D₁₉ hv => ?_
        refine ep_none ?_
        refine tu_to (a := v) (u := tv) (D₁₉.pushed _ rfl) ((D₁₉.pushed _ rfl).at ht2) ⟨_, Heap.get?_push_size _ rfl, rfl, rfl⟩ (by show v ≤ 2; lia) (by show 2 ≤ 1000; lia) fun tb s₂₀ G₂₀ n₂₀ D₂₀ g₂₀ htb k2 => ?_
        have htb' := k2 ht2
        refine it_tup D₂₀ (D₂₀.at htb') fun I s₂₂ D₂₂ _ => ?_
        refine ⟨LpI1 W L I tb fx fl rl z t f tf B G₂₀, v, ?_, ?_, ?_⟩
        · exact ⟨va, wa, [("found", .ref fl), ("way", .int z t), ("floors", .int f tf), ("feed", .ref fx)], G₂₀, D₂₂, lk_tl (lk_tl (lk_tl lk_hd)), lk_tl (lk_tl lk_hd), lk_hd, lk_tl lk_hd, hSa, gwa.wk (by lia) (by lia), fun _ _ z => z⟩
        · rintro s₂₃ ⟨vals, ws, mI, G', D₂₃, l1, l2, l3, l4, hS, gw, g'⟩
          refine end_tup hh D₂₃ (D₂₃.at (g' _ _ htb')) (by rw [List.getElem?_eq_none]; rw [List.length_take]; lia) fun s₂₄ D₂₄ _ => ⟨rfl, ?_⟩
          subst hQ₁ hJ2
          refine x_nil ⟨rfl, vals, ws, G', ?_, hS, gw.wk (Int.le_refl _) (by rw [if_pos h2]; lia), fun b o e => g' b o (g₂₀ b o (g₁₈ b o e))⟩
          rw [if_pos h2]
          exact (D₂₄.fdw (by lia)).fewer (by
            intro p hp
            simp only [List.mem_cons, List.not_mem_nil, or_false] at hp
            rcases hp with rfl | rfl | rfl | rfl
            · exact l3
            · exact l4
            · exact l2
            · exact l1)
        · rintro B₁ T₁ hB₁ hT₁ i s₂₃ hi ⟨vals, ws, mI, G', D₂₃, l1, l2, l3, l4, hS, gw, g'⟩
          obtain ⟨w3, tw3, hw3, hw3a⟩ := two_atY w1 w2 (show i < 2 by lia)
          refine nx_tup D₂₃ (D₂₃.at (g' _ _ htb')) (by rw [List.getElem?_take, if_pos hi]; exact hw3) fun s₂₄ D₂₄ _ => ⟨_, rfl, wpAny_of_eq (a := ()) rfl (wpAny_assign_Name (s_loc D₂₄ fun s₂₅ D₂₅ => ?_))⟩
          have hvl : vals.length ≤ 20 := by rw [strs_len hS]; have := gw.len; lia
          refine x_append (pre := [(I, isIt "tuple_iterator" (.ref tb) (i + 1)), (fx, isFd W rl (B + 3 + i * 4))]) D₂₅ (lk_tl l3) (n_loc D₂₅ lk_hd ?_)
          refine ⟨G', _, [(I, isIt "tuple_iterator" (.ref tb) (i + 1)), (fx, isFd W rl (B + 3 + i * 4))], [], _, D₂₅, by rw [sizeLine_eq]; simp; lia, fun s₂₆ D₂₆ => ?_⟩
          have D₂₆ := D₂₆.perm (.swap _ _ _)
          refine x_extend (pre := [(fx, isFd W rl (B + 3 + i * 4)), (I, isIt "tuple_iterator" (.ref tb) (i + 1))]) D₂₆ (lk_tl l3) ?_
          refine kl_call D₂₆ (lk_tl l1) fmg_lterm k285 fun s₂₇ D₂₇ => ?_
          refine e_int D₂₇ fun s₂₈ t₂₈ D₂₈ => ⟨D₂₈, ?_⟩
          refine c_lterm 1 _ _ _ _ 0 _ _ _ D₂₈.sH (show A.depth + 1 + 1 + 2 ≤ 990 by lia) hh ((((Ra.mono g₁₈).mono g₂₀).mono g').mono D₂₈.sG) sN (D₂₈.get (.head _)) (show B + 3 + i * 4 + 4 ≤ 1000000 by lia) (by lia) fun s₂₉ lr wsr H₂₉ h₂₉ nl hSr gwr => ?_
          have D₂₉ := D₂₈.back1 (pre := []) H₂₉ h₂₉
          obtain ⟨vr, nr, hlr, hSr⟩ := hSr
          have hvr : vr.length ≤ 5 := by rw [strs_len hSr]; exact gwr.len
          refine ⟨_, _, [(fx, isFd W rl (B + 3 + i * 4 + 4)), (I, isIt "tuple_iterator" (.ref tb) (i + 1))], [], _, lr, vr.toArray, nr, rfl, D₂₉, hlr, by rw [sizeLine_eq]; simp; lia, fun s₃₀ D₃₀ => x_nil ?_⟩
          have D₃₀ := D₃₀.perm (.swap _ _ _)
          subst hB₁
          refine ⟨(vals ++ [.str w3 tw3]) ++ vr, (ws ++ [w3]) ++ wsr, ("name", .str w3 tw3) :: mI, G', ?_, lk_tl l1, lk_tl l2, lk_tl l3, lk_tl l4, strs_app (strs_app hS (.cons _ _ .nil)) hSr, ?_, g'⟩
          · rw [show B + 3 + (i + 1) * 4 = B + 3 + i * 4 + 4 from by lia, show ((vals ++ [Value.str w3 tw3]) ++ vr).toArray = vals.toArray.push (.str w3 tw3) ++ vr.toArray from by simp]
            exact D₃₀
          · have g3 := Gw.app (f := 2) gw (Gw.one hw3a.1) (by lia) (by rw [hw3a.2]; lia)
            rw [hw3a.2] at g3
            have g4 := Gw.app (f := 2) g3 gwr (by lia) (by lia)
            exact g4.wk (Int.le_refl _) (by show 3 + i * 6 + 1 + 5 ≤ _; lia)
      · first | refine if_no (show ((z : Int) == 2) = false from (by simp; lia)) ?_ | rw [show ((z : Int) == 2) = false from by simp; lia, if_neg (by decide)]
        subst hJ2
        exact ⟨va, wa, Ga, by rw [if_neg h2]; exact D₁₅, hSa, gwa.wk (by lia) (by rw [if_neg h2]; exact Nat.le_refl _), fun _ _ z => z⟩
    refine hideP fun PH3 hPH3 => ?_
    obtain ⟨vb, wb, Gb, Db, hSb, gwb, gGb⟩ := h₁₅
    subst hPH3
    have Rb := Ra.mono gGb
    refine x_ifJ (J := LpJ3 W L fx fl rl z t f tf B Gb) ?_ fun s₁₆ h₁₆ => ?_
    · intro J3 hJ3
      refine wpAny_isTrue_Compare1 ?_
      refine n_loc Db (lk_tl lk_hd) ?_
      refine e_int Db fun s₁₆ u1 D₁₆ => ?_
      refine gt_int (wpAny_truthy_bool ?_)
      by_cases h2 : 2 < z
      · first | refine if_yes (show decide ((2 : Int) < (z : Int)) = true from (by simp; lia)) ?_ | rw [show decide ((2 : Int) < (z : Int)) = true from by simp; lia, if_pos rfl]
        obtain ⟨f', rfl⟩ : ∃ f', f = f' + 1 := ⟨f - 1, by have : f ≠ 0 := fun h => absurd (hz0 h) (by lia); lia⟩
        have hB2 : B + (13 + 3 * cp f') ≤ 1000000 := by simpa [cp] using hB
        have h2' : z ≠ 2 := by lia
        rw [if_neg h2'] at D₁₆ gwb
        refine x_forH fun Q₂ E₂ hQ₂ hE₂ => ?_
        refine Call_ (n_blt D₁₆ (mg_none hs.st fmg_range) rfl (kb1 (spliced_more ?_)))
        refine wpAny_mono (Q := fun v s' => ∃ (c : Nat) (tt : Tok), v = .int c tt ∧ c ≤ 3 ∧ Led W Gb L [("found", .ref fl), ("way", .int z t), ("floors", .int (f' + 1 : Nat) tf), ("feed", .ref fx)] [(fx, isFd W rl (B + 3)), (fl, isL vb.toArray)] s') (IfExp_ ?_) (fun v s₁₈ h₁₈ => ?_) fun _ _ z => z
        · refine wpAny_isTrue_Compare1 ?_
          refine n_loc D₁₆ (lk_tl lk_hd) ?_
          refine e_int D₁₆ fun s₁₇ u2 D₁₇ => ?_
          refine eq_int (wpAny_truthy_bool ?_)
          cases hz3 : ((z : Int) == 3) with
          | true =>
            first | refine if_yes rfl ?_ | rw [if_pos rfl]
            exact e_int (D₁₇.fdw (by lia)) fun s₁₈ u3 D₁₈ => ⟨1, u3, rfl, by lia, D₁₈⟩
          | false =>
            first | refine if_no rfl ?_ | rw [if_neg (by decide)]
            refine IfExp_ ?_
            refine wpAny_isTrue_Compare1 ?_
            refine n_loc D₁₇ (lk_tl lk_hd) ?_
            refine e_int D₁₇ fun s₁₈ u3 D₁₈ => ?_
            refine eq_int (wpAny_truthy_bool ?_)
            cases hz4 : ((z : Int) == 4) with
            | true =>
              first | refine if_yes rfl ?_ | rw [if_pos rfl]
              refine wpAny_BinOp (e_int D₁₈ fun s₁₉ u4 D₁₉ => ?_)
              refine p_call (many := 2) D₁₉ Rb (lk_tl (lk_tl (lk_tl lk_hd))) (hd' _) (by lia) (by decide) (fun s' D' => e_int D' fun s'' t'' D'' => ⟨t'', rfl, D''⟩) fun s₂₀ v tv D₂₀ hv => ?_
              refine P.add_int ?_
              rw [show ((2 : Int) + (v : Int)) = ((2 + v : Nat) : Int) from by lia]
              exact ⟨2 + v, _, rfl, by lia, D₂₀.tok _⟩
            | false =>
              first | refine if_no rfl ?_ | rw [if_neg (by decide)]
              exact p_call (many := 3) D₁₈ Rb (lk_tl (lk_tl (lk_tl lk_hd))) (hd' _) (by lia) (by decide) (fun s' D' => e_int D' fun s'' t'' D'' => ⟨t'', rfl, D''⟩) fun s₂₀ v tv D₂₀ hv => ⟨v, tv, rfl, by lia, D₂₀⟩
        refine hideP fun PH4 hPH4 => ?_
        obtain ⟨c, tc, rfl, hc, D₁₈⟩ := h₁₈
        subst hPH4
        refine spliced_none ?_
        refine rg_new D₁₈ (by lia) fun I s₁₉ D₁₉ => ?_
        have hlf := lp_ge f'
        have hlp : lp (f' + 1) = 4 + 3 * lp f' := rfl
        have hcp' : cp (f' + 1) = 13 + 3 * cp f' := rfl
        have hlt : lp f' ≤ 1000 := lp_le (by lia)
        refine ⟨LpI2 W L I fx fl rl z t f' tf B c Gb, c, ?_, ?_, ?_⟩
        · refine ⟨vb, wb, [("found", .ref fl), ("way", .int z t), ("floors", .int (f' + 1 : Nat) tf), ("feed", .ref fx)], Gb, ?_, lk_tl (lk_tl (lk_tl lk_hd)), lk_tl (lk_tl lk_hd), lk_hd, lk_tl lk_hd, hSb, gwb.wk (by lia) (by lia), fun _ _ z => z⟩
          rw [show (c : Int) - ((0 : Nat) : Int) = (c : Int) from by lia, show B + 3 + 0 * cp f' = B + 3 from by lia]
          exact D₁₉
        · rintro s₂₃ ⟨vals, ws, mI, G', D₂₃, l1, l2, l3, l4, hS, gw, g'⟩
          refine end_rg hh D₂₃ (by lia) fun s₂₄ D₂₄ => ⟨rfl, ?_⟩
          have hc2 : c * cp f' ≤ 3 * cp f' := Nat.mul_le_mul_right _ hc
          have hl2 : c * lp f' ≤ 3 * lp f' := Nat.mul_le_mul_right _ hc
          subst hQ₂ hJ3
          refine x_nil ⟨rfl, vals, ws, G', ?_, hS, gw.wk (by lia) (by lia), g'⟩
          exact (D₂₄.fdw (by lia)).fewer (by
            intro p hp
            simp only [List.mem_cons, List.not_mem_nil, or_false] at hp
            rcases hp with rfl | rfl | rfl | rfl
            · exact l3
            · exact l4
            · exact l2
            · exact l1)
        · rintro B₂ T₂ hB₂ hT₂ i s₂₃ hi ⟨vals, ws, mI, G', D₂₃, l1, l2, l3, l4, hS, gw, g'⟩
          have hcl : (i + 1) * cp f' ≤ 3 * cp f' := Nat.mul_le_mul_right _ (by lia)
          have hll : (i + 1) * lp f' ≤ 3 * lp f' := Nat.mul_le_mul_right _ (by lia)
          rw [Nat.add_mul, Nat.one_mul] at hcl hll
          refine nx_rg D₂₃ (by lia) fun s₂₄ t₂₄ D₂₄ => ⟨_, rfl, wpAny_of_eq (a := ()) rfl (wpAny_assign_Name (s_loc D₂₄ fun s₂₅ D₂₅ => ?_))⟩
          have D₂₅ := D₂₅.perm (.swap _ _ _)
          refine x_extend (pre := [(fx, isFd W rl (B + 3 + i * cp f')), (I, isRg ((i : Int) + 1) ((c : Int) - (i : Int) - 1) 1)]) D₂₅ (lk_tl l3) ?_
          refine kl_call D₂₅ (lk_tl l1) fmg_lpaper k292 fun s₂₆ D₂₆ => ?_
          refine wpAny_BinOp (n_loc D₂₆ (lk_tl l2) (e_int D₂₆ fun s₂₇ t₂₇ D₂₇ => PyProof.Rows.sub_int ⟨D₂₇.tok _, ?_⟩))
          rw [show (((f' + 1 : Nat) : Int) - 1) = (f' : Int) from by lia]
          have D₂₈ := D₂₇.tok (s₂₇.toks + 1)
          refine ih f' rfl _ _ _ _ _ _ _ D₂₈.sH (show A.depth + 1 + f' + 10 ≤ 990 by lia) hh ((Rb.mono g').mono D₂₈.sG) sN (D₂₈.get (.head _)) (by lia) (by lia) fun s₂₉ lr wsr H₂₉ h₂₉ nl hSr gwr _ => ?_
          have D₂₉ := D₂₈.back1 (pre := []) H₂₉ h₂₉
          obtain ⟨vr, nr, hlr, hSr⟩ := hSr
          have hvr : vr.length ≤ 1000 := by rw [strs_len hSr]; exact Nat.le_trans gwr.len hlt
          have hvl : vals.length ≤ 4000 := by rw [strs_len hS]; have := gw.len; lia
          refine ⟨_, _, [(fx, isFd W rl (B + 3 + i * cp f' + cp f')), (I, isRg ((i : Int) + 1) ((c : Int) - (i : Int) - 1) 1)], [], _, lr, vr.toArray, nr, rfl, D₂₉, hlr, by rw [sizeLine_eq]; simp; lia, fun s₃₀ D₃₀ => x_nil ?_⟩
          have D₃₀ := D₃₀.perm (.swap _ _ _)
          subst hB₂
          refine ⟨vals ++ vr, ws ++ wsr, ("turn", .int i t₂₄) :: mI, G', ?_, lk_tl l1, lk_tl l2, lk_tl l3, lk_tl l4, strs_app hS hSr, ?_, g'⟩
          · rw [show (((i + 1 : Nat) : Int)) = (i : Int) + 1 from by lia, show (c : Int) - ((i : Int) + 1) = (c : Int) - (i : Int) - 1 from by lia, show B + 3 + (i + 1) * cp f' = B + 3 + i * cp f' + cp f' from by rw [Nat.add_mul, Nat.one_mul]; lia, show (vals ++ vr).toArray = vals.toArray ++ vr.toArray from by simp]
            exact D₃₀
          · have g3 := Gw.app (f := (f' : Int) + 4) gw gwr (by lia) (by lia)
            exact g3.wk (Int.le_refl _) (by rw [Nat.add_mul, Nat.one_mul]; lia)
      · first | refine if_no (show decide ((2 : Int) < (z : Int)) = false from (by simp; lia)) ?_ | rw [show decide ((2 : Int) < (z : Int)) = false from by simp; lia, if_neg (by decide)]
        have := lp_ge f
        subst hJ3
        refine ⟨vb, wb, Gb, D₁₆.fdw ?_, hSb, gwb.wk (by lia) ?_, fun _ _ z => z⟩
        · split <;> lia
        · split <;> lia
    refine hideP fun PH5 hPH5 => ?_
    obtain ⟨vc, wc, Gc, Dc, hSc, gwc, gGc⟩ := h₁₆
    subst hPH5
    have hlf : lp f ≤ 1000 := lp_le hf2
    have hlg := lp_ge f
    have hvc : vc.length ≤ 1000 := by rw [strs_len hSc]; have := gwc.len; lia
    refine x_ret ?_
    refine wpAny_BinOp ?_
    refine n_loc Dc lk_hd ?_
    refine List_ ?_
    refine spliced_more (e_str Dc fun s₁₈ tq D₁₈ => ?_)
    refine spliced_none (l_new D₁₈ (by size_fits) fun q s₁₉ D₁₉ => ?_)
    obtain ⟨nfl, hfl⟩ := isL_get (D₁₉.nw (fl, isL _) (.tail _ (.tail _ (.head _)))).1
    obtain ⟨n2, hq⟩ := isL_get (D₁₉.get (.head _))
    refine l_add D₁₉ hfl hq (by rw [sizeLine_eq]; simp; lia) fun a2 s₂₀ D₂₀ na2 => ?_
    have D₂₁ := D₂₀.perm (news' := [(a2, isL _), (fx, isFd W rl (B + cp f)), (q, isL _), (fl, isL _)]) (.cons _ (.swap _ _ _))
    have gall : (hid s.heap [fx]).StaysIn Gc := fun b o e => gGc b o (gGb b o (gGa b o (g₁₀ b o e)))
    have hl := newl D₂₁ gall
    have D₂₂ := D₂₁.lo gall hs'.top
    obtain ⟨n3, ha2⟩ := isL_get (D₂₂.get (.head _))
    have g2 := Gw.app (f := (f : Int) + 3) gwc (Gw.one (w := ")") (by decide)) (by lia) (by rw [show wt ")" = -1 from by decide]; lia)
    rw [show wt ")" = -1 from by decide] at g2
    subst hQe; refine ret_v (k _ a2 (wc ++ [Str.ofString ")"]) D₂₂.hs ((D₂₂.less (List.sublist_cons_self _ _)).get (.head _)) hl ⟨vc ++ [.str ")" tq], n3, ?_, strs_app hSc (.cons _ _ .nil)⟩ (g2.wk (Int.le_refl _) (by lia)) ?_)
    · rw [ha2]
    · have h1 := gwc.tot
      cases wc with
      | nil => cases h1
      | cons a b => simp only [List.length_append, List.length_cons, List.length_nil]; lia
theorem c_lpaper : ∀ (f : Nat), CLp W fx rl f := by
  intro f
  induction f with
  | zero => exact c_lpaper1 0 fun f' h => absurd h (by lia)
  | succ f ih => exact c_lpaper1 (f + 1) fun f' h => (by obtain rfl : f' = f := (by lia); exact ih)
end
end Mine
end

section
open PySem PySem.W PyProof.Rows PySem.Calls PySem.Spec
set_option autoImplicit false
namespace Mine
theorem warmsf (w : World) (h : Heap) : (hd.heap_39 w.params).In h → PySem.Challenge.rw_rh0003_01.prog = PySem.Challenge.rw_rh0003_01.prog := by
  k_fill
  intro _
  rfl
noncomputable def Gv (P : Int) (N : Nat) (ws : List Str) : Prop := ∃ t, Gw P N t ws
theorem bal_drop (ws : List Str) (k j : Nat) : bal ((ws.drop k).take j) = bal (ws.take (k + j)) - bal (ws.take k) := by
  have h : ws.take (k + j) = ws.take k ++ (ws.drop k).take j := by rw [List.take_add]
  rw [h, bal_app]; lia
theorem wt_le (w : Str) : wt w ≤ 1 ∧ -1 ≤ wt w := by
  by_cases h : w = "("
  · simp [wt, h]
  · by_cases h2 : w = ")"
    · rw [h2]; decide
    · simp [wt, h, h2]
theorem bal_mid {mid : List Str} (h : mid.length ≤ 1) (j : Nat) : bal (mid.take j) ≤ 1 := by
  match mid, h with
  | [], _ => simp [bal]
  | [w], _ =>
    cases j with
    | zero => simp [bal]
    | succ j => simp [bal]; exact (wt_le w).1
theorem bal_step (ws : List Str) (a : Nat) : bal (ws.take a) - 1 ≤ bal (ws.take (a + 1)) ∧ bal (ws.take (a + 1)) ≤ bal (ws.take a) + 1 := by
  rw [List.take_add_one, bal_app]
  cases ws[a]? with
  | none => simp [bal]; lia
  | some w => simp [bal]; have := wt_le w; lia
theorem td_len {α : Type} (l : List α) (a b : Nat) (h : a ≤ b) : (l.take a).length + (l.drop b).length ≤ l.length := by
  have h1 := congrArg List.length (List.take_append_drop a l)
  rw [List.length_append] at h1
  have h2 : (l.drop b).length ≤ (l.drop a).length := by rw [List.length_drop, List.length_drop]; exact Nat.sub_le_sub_left h _
  exact Nat.le_trans (Nat.add_le_add_left h2 _) (Nat.le_of_eq h1)
theorem bent_len1 {α : Type} (l : List α) (a : Nat) : l.length ≤ (l.take a ++ l.drop (a + 1)).length + 1 := by
  rw [List.length_append, List.length_take, List.length_drop]; lia
theorem bent_len2 {α : Type} (l : List α) (x : α) (a b : Nat) (h : b = a ∨ b = a + 1) : l.length ≤ (l.take a ++ [x] ++ l.drop b).length + 1 := by
  rw [List.length_append, List.length_append, List.length_take, List.length_drop, List.length_singleton]; lia
theorem tk_sz {l : List Value} (a : Nat) (h : l.length ≤ 1000) : (l.take a).toArray.size ≤ 1000 := by rw [List.size_toArray]; exact Nat.le_trans (List.length_take_le' a l) h
theorem dr_sz {l : List Value} (a : Nat) (h : l.length ≤ 1000) : (l.drop a).toArray.size ≤ 1000 := by rw [List.size_toArray, List.length_drop]; exact Nat.le_trans (Nat.sub_le _ _) h
theorem sz_2 {x y : Array Value} (hx : x.size ≤ 1000) (hy : y.size ≤ 1000) : x.size + y.size ≤ sizeLine := by rw [sizeLine_eq]; exact Nat.le_trans (Nat.add_le_add hx hy) (by decide)
theorem sz_3 {x y z : Array Value} (hx : x.size ≤ 1000) (hy : y.size ≤ 1000) (hz : z.size ≤ 1000) : (x.toList ++ y.toList).toArray.size + z.size ≤ sizeLine := by rw [sizeLine_eq, List.size_toArray, List.length_append, Array.length_toList, Array.length_toList]; exact Nat.le_trans (Nat.add_le_add (Nat.add_le_add hx hy) hz) (by decide)
theorem gv_bent {P : Int} {N : Nat} {ws mid : List Str} (g : Gv P N ws) (a b : Nat) (hb : b = a ∨ b = a + 1) (hm : mid.length ≤ 1) (hal : ∀ w ∈ mid, w ∈ alpha) : Gv (P + 2) (N + 1) (ws.take a ++ mid ++ ws.drop b) := by
  obtain ⟨t, g⟩ := g
  refine ⟨_, ⟨fun w hw => ?_, fun k => ?_, rfl, ?_⟩⟩
  · rcases List.mem_append.mp hw with hw | hw
    · rcases List.mem_append.mp hw with hw | hw
      · exact g.al w (List.mem_of_mem_take hw)
      · exact hal w hw
    · exact g.al w (List.mem_of_mem_drop hw)
  · rw [List.take_append, List.take_append, bal_app, bal_app, List.take_take, bal_drop]
    have h1 := g.pk (min k a)
    have h2 := bal_mid hm (k - (ws.take a).length)
    by_cases hk : k ≤ (ws.take a ++ mid).length
    · rw [show k - (ws.take a ++ mid).length = 0 from by lia, Nat.add_zero]
      lia
    · have h3 := g.pk (b + (k - (ws.take a ++ mid).length))
      have h4 : bal (ws.take a) - 1 ≤ bal (ws.take b) := by
        rcases hb with rfl | rfl
        · lia
        · exact (bal_step ws a).1
      have h5 : bal (ws.take (min k a)) = bal (ws.take a) := by
        rw [List.length_append, List.length_take] at hk
        by_cases hka : k ≤ a
        · have : ws.length ≤ k := by lia
          rw [List.take_of_length_le (by lia), List.take_of_length_le (by lia)]
        · rw [Nat.min_eq_right (by lia)]
      lia
  · rw [List.length_append, List.length_append]
    have h1 := Nat.le_trans (td_len ws a b (by lia)) g.len
    clear hb hal g
    lia
theorem gv_snoc {P : Int} {N : Nat} {ws : List Str} {w : Str} (g : Gv P N ws) (hw : w ∈ alpha) (hP : 0 ≤ P) : Gv (P + 1) (N + 1) (ws ++ [w]) := by
  obtain ⟨t, g⟩ := g
  have h := Gw.app (f := P + 1) g (Gw.one hw) (by lia) (by have := g.sub; have := wt_le w; lia)
  exact ⟨_, h⟩
section
variable {W : Wd} {G : Heap} {L : Addr} {m : List (Str × Value)} {news pre post : List (Addr × (Obj → Prop))} {s : Shared} {A : Around} {E : Value → Shared → Prop} {env : Env} {v : Value} {pos : Pos}
  {Q : Value → Shared → Prop} {fx rl : Addr} {fs : List Env} {n B : Nat}
theorem li_slice {value slice : Expr} {l sl : Addr} {its : Array Value} {k : Nat} {vl vu : Value} {lo hi : Option Int} (D : Led W G L m news s) (hl : s.heap.get? l = some (lstOf its k)) (hs : s.heap.IsSliceOf sl vl vu .none) (h1 : IsPart vl lo) (h2 : IsPart vu hi) (hz : its.size ≤ sizeLine)
    (h : ∀ a s', Led W G L m ((a, isL (slicePick its lo hi none)) :: news) s' → Q (.ref a) s')
    (he : subscripted slice false (.ref l) (.ref sl) = operate [.ref sl, .ref l] (getItem (.ref l) (.ref sl)) := by with_unfolding_all rfl) :
    wpAny (model pw W.w) A (subscriptTail value slice (.ref l) (.ref sl)) Q E s :=
  tail_any (isList_of hl).typeIs slot_list_getitem.lookup (wpAny_getItem_list_slice (isList_of hl) hs h1 h2 .none (by decide) (h _ _ (D.push _ _ ⟨_, rfl⟩ rfl)) hz) he
/-- two local names at once -/
theorem x_asg2 {x y : Str} {px py tp tp2 : Pos} {k k2 : Nat} {vals : List Expr} {rest : List Stmt} {QF : Flow → Shared → Prop} {qn : Str} {sc : Scope} {fa : Addr} {cd : Value} (hh : A.handled = none)
    (h : wpAny (model pw W.w) A (eval (.Tuple vals k2 tp2) (envOf qn sc L fa cd)) (fun v s₁ => ∃ G' m' news' a u1 u2 n, v = .ref a ∧ Led W G' L m' news' s₁ ∧ s₁.heap.get? a = some (tupOf [u1, u2] n) ∧
      ∀ s₂, Led W G' L ((x, u1) :: (y, u2) :: m') news' s₂ → wpAny (model pw W.w) A (execs rest (envOf qn sc L fa cd)) QF E s₂) E s)
    (hk : sc.kind = .function := by rfl) (h1 : (envOf qn sc L fa cd).kindOf x = some .local := by rfl) (h2 : (envOf qn sc L fa cd).kindOf y = some .local := by rfl)
    (hs : swapsWithSole [.Tuple [.Name x px, .Name y py] k tp] (.Tuple vals k2 tp2) pos.line (envOf qn sc L fa cd) = pure false := by rfl)
    (hw : swappedStores [.Tuple [.Name x px, .Name y py] k tp] (.Tuple vals k2 tp2) (envOf qn sc L fa cd) = pure (some [x, y]) := by rfl) :
    wpAny (model pw W.w) A (execs (.Assign [.Tuple [.Name x px, .Name y py] k tp] (.Tuple vals k2 tp2) pos :: rest) (envOf qn sc L fa cd)) QF E s := by
  refine wpAny_execs_cons (Assign_Tuple_swapped (names := [x, y]) (wpAny_mono h (fun v s₁ h₁ => ?_) fun _ _ z => z) hs hw)
  refine hideP fun PH1 hPH1 => ?_
  obtain ⟨G', m', news', a, u1, u2, n, rfl, D, ha, hq⟩ := h₁
  subst hPH1
  show wpAny (model pw W.w) A (unpackItems (.ref a) 2 none) _ _ _
  refine unpackItems_tuple (items := #[u1, u2]) hh (isTup_of ha) fun h' he => ?_
  have D₂ : Led W G' L m' news' { s₁ with heap := h' } := D.kept (s' := { s₁ with heap := h' }) fun b o e => he b o (Nat.ne_of_lt (Heap.lt_size e)) e
  show wpAny (model pw W.w) A (assignInOrder [bindName (envOf qn sc L fa cd) y, bindName (envOf qn sc L fa cd) x] [u2, u1]) _ _ _
  refine assignInOrder_cons ?_
  refine bindName_ (s_loc D₂ (fun s₃ D₃ => ?_) hk h2)
  refine assignInOrder_cons ?_
  refine bindName_ (s_loc D₃ (fun s₄ D₄ => ?_) hk h1)
  exact assignInOrder_nil (hq _ D₄)
theorem fmg_other : nsIn (hd.heap_39 W.w.params) mainGlobals "_law_other" = some (some (.ref 264)) := by k_is
noncomputable def other : List Str := ["(", ")", ":", "same", "told", "rule", "turn", "join", "under", "what", "?x", "?y", "a"]
theorem h264 : ∃ (vs : List Value) (k : Nat), StrsAre vs other ∧ (hd.heap_39 W.w.params).lookup 264 = some (tupOf vs k) := by
  refine obj_of (a := 264) (K := hd.heap_39 W.w.params) (o := ⟨_, _, .seq _ _, _⟩) (by k_is) fun e => ?_
  exact ⟨_, _, .cons _ _ (.cons _ _ (.cons _ _ (.cons _ _ (.cons _ _ (.cons _ _ (.cons _ _ (.cons _ _ (.cons _ _ (.cons _ _ (.cons _ _ (.cons _ _ (.cons _ _ .nil)))))))))))), e⟩
theorem other_al : ∀ w ∈ other, w ∈ alpha := by decide
theorem fmg_bent : nsIn (hd.heap_39 W.w.params) mainGlobals "_law_bent" = some (some (.ref 299)) := by k_is
theorem k299 : keepIn (hd.heap_39 W.w.params) (.ref 299) = true := by k_is
theorem six' {z n : Nat} (h : z < n) : seqIndex? (z : Int) n = some z := by
  unfold seqIndex?
  have h0 : ¬ ((z : Int) < 0) := by lia
  simp only [h0, if_false]
  simp [h]
theorem strs_take : ∀ {vs : List Value} {ws : List Str} (k : Nat), StrsAre vs ws → StrsAre (vs.take k) (ws.take k)
  | _, _, 0, _ => by simp; exact .nil
  | _, _, k + 1, .nil => by simp; exact .nil
  | _, _, k + 1, .cons x t h => by simp; exact .cons x t (strs_take k h)
theorem strs_drop : ∀ {vs : List Value} {ws : List Str} (k : Nat), StrsAre vs ws → StrsAre (vs.drop k) (ws.drop k)
  | _, _, 0, h => h
  | _, _, k + 1, .nil => by simp; exact .nil
  | _, _, k + 1, .cons x t h => by simp; exact strs_drop k h
theorem len_call {o : Str} {p1 p2 p3 : Pos} {l : Addr} {vs : List Value} {k : Nat} {qn : Str} {sc : Scope} {fa : Addr} {cd : Value} (D : Led W G L m news s) (hv : lk m o = some (.ref l)) (hl : s.heap.get? l = some (lstOf vs.toArray k)) (hz : vs.length ≤ 100000)
    (h : ∀ s' t, Led W G L m news s' → s'.heap = s.heap → Q (.int vs.length t) s')
    (hk : sc.kind = .function := by rfl) (h1 : (envOf qn sc L fa cd).kindOf "len" = some .globalImplicit := by rfl) (h2 : (envOf qn sc L fa cd).kindOf o = some .local := by rfl) (hdb : (o == ("__debug__" : Str)) = false := by decide)
    (hs : starEach [.Name o p2] (envOf qn sc L fa cd) = (false, eval (.Name o p2) (envOf qn sc L fa cd)) :: starEach [] (envOf qn sc L fa cd) := by rfl) :
    wpAny (model pw W.w) A (eval (.Call (.Name "len" p1) [.Name o p2] [] p3) (envOf qn sc L fa cd)) Q E s := by
  refine Call_ (n_blt D (mg_none D.hs.st fmg_len) rfl (kb1 (spliced_more (n_loc D hv (spliced_none ?_) hk h2 hdb) hs) rfl hs (by rfl)) hk h1)
  refine call_len_list (isList_of hl) (by rw [List.size_toArray]; lia) ?_
  exact h _ _ (D.tok _) rfl
theorem to_slice {vs : List Value} {a : Nat} (h : a ≤ vs.length) : slicePick vs.toArray none (some (a : Int)) none = (vs.take a).toArray := by
  rw [slice_list (a := 0) (b := a) (.inr ⟨rfl, rfl⟩) (.inl ⟨a, rfl, by rw [List.size_toArray]; lia⟩) (Nat.zero_le _) (by rw [List.size_toArray]; exact h)]
  rfl
theorem from_slice {vs : List Value} {a : Nat} (h : a ≤ vs.length) : slicePick vs.toArray (some (a : Int)) none none = (vs.drop a).toArray := by
  rw [slice_list (a := a) (b := vs.length) (.inl rfl) (.inr ⟨rfl, by rw [List.size_toArray]⟩) h (by rw [List.size_toArray]; exact Nat.le_refl _)]
  congr 1
  exact List.take_of_length_le (by rw [List.length_drop]; exact Nat.le_refl _)
theorem c_bent {lw : Addr} {ws : List Str} {Pk : Int} {N : Nat} (hs : Hs W G s) (hdp : A.depth + 5 ≤ 990) (hh : A.handled = none) (R : Row G fx rl) (hG : G.get? fx = none) (hf : ∃ o, s.heap.get? fx = some o ∧ isFd W rl B o) (hB : B + 3 ≤ 1000000)
    (hS : StrL G lw ws) (gw : Gv Pk N ws) (hne : 0 < ws.length) (hN : N ≤ 1000)
    (k : ∀ s' l ws', Hs W (hid s.heap [fx]) s' → (∃ o, s'.heap.get? fx = some o ∧ isFd W rl (B + 3) o) → s.heap.get? l = none → StrL s'.heap l ws' → Gv (Pk + 2) (N + 1) ws' → ws.length ≤ ws'.length + 1 → Q (.ref l) s') :
    wpAny (model pw W.w) A (call (.ref 299) [.ref fx, .ref lw]) Q E s := by
  obtain ⟨hs', st'⟩ := mv_dx hs hG
  have R := R.mono st'
  obtain ⟨vs, nl, hl, hSt⟩ := hS.mono st'
  have hlen : vs.length = ws.length := strs_len hSt
  have hle : ws.length ≤ N := gw.choose_spec.len
  have hv1 : vs.length ≤ 1000 := hlen ▸ Nat.le_trans hle hN
  refine enterC [("words", .ref lw), ("feed", .ref fx)] (news := [(fx, isFd W rl B)]) hs' (fun q hq => by rw [List.mem_singleton.mp hq]; exact ⟨hf, hid_none (.head _)⟩) (by simp) (by k_is) (by k_is) (show A.depth < 1000 by lia) rfl rfl rfl rfl rfl (by decide) fun L s₁ D stk hL => ?_
  refine hide fun Qe Ee hQe hEe => ?_
  have hd' : ∀ env, (A.deeper env).depth < recursionLimit := fun env => show A.depth + 1 < 1000 by lia
  refine x_asg2 hh ?_
  refine Tuple_ ?_
  refine spliced_more ?_
  refine p_call (many := 3) D R (lk_tl lk_hd) (hd' _) (by lia) (by decide) (fun s' D' => e_int D' fun s'' t'' D'' => ⟨t'', rfl, D''⟩) fun s₂ z tz D₂ hz => ?_
  refine spliced_more ?_
  refine p_call (many := vs.length) D₂ R (lk_tl lk_hd) (hd' _) (by lia) (by lia) (fun s' D' => len_call D' lk_hd (D'.at hl) (by lia) fun s'' t'' D'' _ => ⟨t'', rfl, D''⟩) fun s₃ a ta D₃ ha => ?_
  refine spliced_none ?_
  refine t_gr D₃ (by size_fits) fun tt s₄ G₄ D₄ g₄ htt => ?_
  refine ⟨G₄, _, _, tt, _, _, 0, rfl, D₄, D₄.at htt, fun s₅ D₅ => ?_⟩
  have hl₄ := g₄ _ _ hl
  refine x_if ?_
  refine wpAny_isTrue_Compare1 ?_
  refine n_loc D₅ lk_hd ?_
  refine e_int D₅ fun s₆ t₆ D₆ => ?_
  refine eq_int (wpAny_truthy_bool ?_)
  have hvz : vs.toArray.size ≤ sizeLine := by rw [List.size_toArray, sizeLine_eq]; lia
  by_cases h0 : z = 0
  · first | refine if_yes (show ((z : Int) == 0) = true from (by simp [h0])) ?_ | rw [show ((z : Int) == 0) = true from by simp [h0], if_pos rfl]
    refine x_ret ?_
    refine wpAny_BinOp ?_
    refine Subscript_ ?_
    refine n_loc D₆ (lk_tl (lk_tl lk_hd)) ?_
    refine wpAny_Slice (ep_none (ep_some ?_))
    refine n_loc D₆ (lk_tl lk_hd) ?_
    refine ep_none ?_
    refine li_slice (vl := .none) (vu := .int a ta) (lo := none) (hi := some (a : Int)) (D₆.pushed _ rfl) ((D₆.pushed _ rfl).at hl₄) ⟨_, Heap.get?_push_size _ rfl, rfl, rfl⟩ .none (.int _ _) hvz fun l1 s₇ D₇ => ?_
    rw [to_slice (by lia)] at D₇
    refine Subscript_ ?_
    refine n_loc D₇ (lk_tl (lk_tl lk_hd)) ?_
    refine wpAny_Slice (ep_some ?_)
    refine wpAny_BinOp ?_
    refine n_loc D₇ (lk_tl lk_hd) ?_
    refine e_int D₇ fun s₈ t₈ D₈ => ?_
    refine P.add_int ?_
    refine ep_none (ep_none ?_)
    have D₉ := D₈.tok (s₈.toks + 1)
    rw [show ((a : Int) + 1) = ((a + 1 : Nat) : Int) from by lia]
    refine li_slice (vl := .int ((a + 1 : Nat) : Int) _) (vu := .none) (lo := some ((a + 1 : Nat) : Int)) (hi := none) (D₉.pushed _ rfl) ((D₉.pushed _ rfl).at hl₄) ⟨_, Heap.get?_push_size _ rfl, rfl, rfl⟩ (.int _ _) .none hvz fun l2 s₁₀ D₁₀ => ?_
    rw [from_slice (by lia)] at D₁₀
    obtain ⟨n1, h1⟩ := isL_get (D₁₀.nw _ (.tail _ (.head _))).1
    obtain ⟨n2, h2⟩ := isL_get (D₁₀.get (.head _))
    refine l_add D₁₀ h1 h2 (sz_2 (tk_sz _ hv1) (dr_sz _ hv1)) fun l3 s₁₁ D₁₁ na3 => ?_
    have D₁₂ := D₁₁.perm (news' := [(l3, isL _), (fx, isFd W rl (B + 1 + 1)), (l1, isL _), (l2, isL _)]) (.cons _ (.trans (.cons _ (.swap _ _ _)) (.trans (.swap _ _ _) (.cons _ (.swap _ _ _)))))
    have gall : (hid s.heap [fx]).StaysIn G₄ := fun b o e => g₄ b o e
    have hl3 := newl D₁₂ gall
    have D₁₃ := D₁₂.lo gall hs'.top
    obtain ⟨n3, h3⟩ := isL_get (D₁₃.get (.head _))
    subst hQe; refine ret_v (k _ l3 (ws.take a ++ ws.drop (a + 1)) D₁₃.hs (((D₁₃.less (List.sublist_cons_self _ _)).fdw (by lia)).get (.head _)) hl3 ⟨vs.take a ++ vs.drop (a + 1), n3, ?_, strs_app (strs_take _ hSt) (strs_drop _ hSt)⟩ ?_ ?_)
    · rw [h3]
    · have := gv_bent (mid := []) gw a (a + 1) (.inr rfl) (Nat.zero_le _) (fun _ h => nomatch h)
      rw [List.append_nil] at this
      exact this
    · exact bent_len1 _ _
  · first | refine if_no (show ((z : Int) == 0) = false from (by simp; lia)) ?_ | rw [show ((z : Int) == 0) = false from by simp; lia, if_neg (by decide)]
    refine x_nil (seq_next ?_)
    refine x_ret ?_
    refine wpAny_BinOp ?_
    refine wpAny_BinOp ?_
    refine Subscript_ ?_
    refine n_loc D₆ (lk_tl (lk_tl lk_hd)) ?_
    refine wpAny_Slice (ep_none (ep_some ?_))
    refine n_loc D₆ (lk_tl lk_hd) ?_
    refine ep_none ?_
    refine li_slice (vl := .none) (vu := .int a ta) (lo := none) (hi := some (a : Int)) (D₆.pushed _ rfl) ((D₆.pushed _ rfl).at hl₄) ⟨_, Heap.get?_push_size _ rfl, rfl, rfl⟩ .none (.int _ _) hvz fun l1 s₇ D₇ => ?_
    rw [to_slice (by lia)] at D₇
    obtain ⟨vo, ko, hSo, ho⟩ := h264 (W := W)
    have hvo : vo.length = 13 := strs_len hSo
    have D₇ := D₇.perm (.swap _ _ _)
    refine List_ ?_
    refine spliced_more ?_
    refine Subscript_ ?_
    refine n_glb D₇ (mg_some hs.st fmg_other) ?_
    refine p_call (many := 13) D₇ (R.mono g₄) (lk_tl (lk_tl (lk_tl lk_hd))) (hd' _) (by lia) (by decide) (fun s' D' => e_int D' fun s'' t'' D'' => ⟨t'', rfl, D''⟩) fun s₈ j tj D₈ hj => ?_
    obtain ⟨wj, hwj⟩ : ∃ wj, other[j]? = some wj := ⟨_, List.getElem?_eq_getElem (show j < other.length by exact hj)⟩
    obtain ⟨tj2, hvj⟩ := (strs_at hSo).2 j wj hwj
    refine tu_get (D₈.hs.X _ _ ho) (by lia) (by lia) (six' (by rw [hvo]; exact hj)) hvj ?_
    refine spliced_none (l_new D₈ (by size_fits) fun l2 s₉ D₉ => ?_)
    obtain ⟨n1, h1⟩ := isL_get (D₉.nw (l1, isL _) (.tail _ (.tail _ (.head _)))).1
    obtain ⟨n2, h2⟩ := isL_get (D₉.get (.head _))
    refine l_add D₉ h1 h2 (sz_2 (tk_sz _ hv1) (show 1 ≤ 1000 by decide)) fun l3 s₁₀ D₁₀ na3 => ?_
    refine Subscript_ ?_
    refine n_loc D₁₀ (lk_tl (lk_tl lk_hd)) ?_
    refine wpAny_Slice (ep_some ?_)
    refine wpAny_BinOp ?_
    refine wpAny_BinOp ?_
    refine n_loc D₁₀ (lk_tl lk_hd) ?_
    refine n_loc D₁₀ lk_hd ?_
    refine P.add_int ?_
    refine e_int (D₁₀.tok _) fun s₁₁ t₁₁ D₁₁ => ?_
    refine PyProof.Rows.sub_int ?_
    refine ep_none (ep_none ?_)
    have D₁₂ := D₁₁.tok (s₁₁.toks + 1)
    obtain ⟨b, hb, hbz⟩ : ∃ b : Nat, ((a : Int) + (z : Int) - 1) = (b : Int) ∧ (b = a ∨ b = a + 1) := ⟨a + z - 1, by lia, by lia⟩
    rw [hb]
    refine li_slice (vl := .int (b : Int) _) (vu := .none) (lo := some (b : Int)) (hi := none) (D₁₂.pushed _ rfl) ((D₁₂.pushed _ rfl).at hl₄) ⟨_, Heap.get?_push_size _ rfl, rfl, rfl⟩ (.int _ _) .none hvz fun l4 s₁₃ D₁₃ => ?_
    rw [from_slice (by lia)] at D₁₃
    obtain ⟨n3, h3⟩ := isL_get (D₁₃.nw _ (.tail _ (.head _))).1
    obtain ⟨n4, h4⟩ := isL_get (D₁₃.get (.head _))
    refine l_add D₁₃ h3 h4 (sz_3 (y := #[.str wj tj2]) (tk_sz _ hv1) (show 1 ≤ 1000 by decide) (dr_sz _ hv1)) fun l5 s₁₄ D₁₄ na5 => ?_
    have D₁₅ := D₁₄.perm (news' := [(l5, isL _), (fx, isFd W rl (B + 1 + 1 + 1)), (l4, isL _), (l3, isL _), (l2, isL _), (l1, isL _)]) (.cons _ (.trans (.cons _ (.trans (.cons _ (.swap _ _ _)) (.swap _ _ _))) (.swap _ _ _)))
    have hl5 := newl D₁₅ g₄
    have D₁₆ := D₁₅.lo g₄ hs'.top
    obtain ⟨n5, h5⟩ := isL_get (D₁₆.get (.head _))
    subst hQe; refine ret_v (k _ l5 (ws.take a ++ [wj] ++ ws.drop b) D₁₆.hs (((D₁₆.less (List.sublist_cons_self _ _)).fdw (by lia)).get (.head _)) hl5 ⟨vs.take a ++ [.str wj tj2] ++ vs.drop b, n5, ?_, strs_app (strs_app (strs_take _ hSt) (.cons _ _ .nil)) (strs_drop _ hSt)⟩ ?_ ?_)
    · rw [h5]
    · exact gv_bent (mid := [wj]) gw a b hbz (Nat.le_refl _) (fun w hw => by rw [List.mem_singleton.mp hw]; exact other_al _ (List.mem_of_getElem? hwj))
    · exact bent_len2 _ _ _ _ hbz
end
end Mine
end

section
open PySem PySem.W PyProof.Rows PySem.Calls PySem.Spec
set_option autoImplicit false
namespace Mine
noncomputable def signs : List Str := ["", "(", ")", ",", ":"]
noncomputable def isW (w : Str) : Bool := !(signs.any fun x => x == w)
/-- words laid with blanks between: the rest of a text from an offset on -/
inductive Laid : Bool → List Str → List Nat → Nat → List Nat → Prop
  | nil {b : Bool} {o : Nat} : Laid b [] [] o []
  | blank {b : Bool} {o : Nat} {ws : List Str} {cs sp : List Nat} : Laid false ws cs (o + 1) sp → Laid b ws (32 :: cs) o sp
  | word {b : Bool} {o : Nat} {w : Str} {ws : List Str} {cs sp : List Nat} : (isW w = true → b = false) → w ∈ alpha → Laid (isW w) ws cs (o + w.cps.toList.length) sp → Laid b (w :: ws) (w.cps.toList ++ cs) o (o :: sp)
/-- what is laid so far -/
noncomputable def Pfx (b : Bool) (ws : List Str) (cs sp : List Nat) : Prop := ∀ ws2 cs2 sp2, Laid b ws2 cs2 cs.length sp2 → Laid false (ws ++ ws2) (cs ++ cs2) 0 (sp ++ sp2)
theorem Pfx.fin {b : Bool} {ws : List Str} {cs sp : List Nat} (x : Pfx b ws cs sp) : Laid false ws cs 0 sp := by
  have := x [] [] [] .nil
  simpa using this
theorem laid_false {b : Bool} {ws : List Str} {cs sp : List Nat} {o : Nat} (h : Laid b ws cs o sp) : Laid false ws cs o sp := by
  induction h using Laid.casesOn with
  | nil => exact .nil
  | blank h => exact .blank h
  | word _ h1 h2 => exact .word (fun _ => rfl) h1 h2
theorem laid_blanks : ∀ (g : Nat) {b : Bool} {ws : List Str} {cs sp : List Nat} {o : Nat}, (g = 0 → Laid b ws cs o sp) → Laid false ws cs (o + g) sp → Laid b ws (List.replicate g 32 ++ cs) o sp
  | 0, b, ws, cs, sp, o, h0, _ => by simpa using h0 rfl
  | g + 1, b, ws, cs, sp, o, _, h => .blank (laid_blanks g (fun e => by subst e; exact h) (by rw [show o + 1 + g = o + (g + 1) from by lia]; exact h))
theorem Pfx.start (g : Nat) : Pfx false [] (List.replicate g 32) [] := fun ws2 cs2 sp2 h => by
  rw [List.length_replicate] at h
  exact laid_blanks g (fun e => by subst e; exact h) (by simpa using h)
theorem Pfx.step {b : Bool} {ws : List Str} {cs sp : List Nat} {w : Str} (x : Pfx b ws cs sp) (g : Nat) (hg : b = true → isW w = true → 1 ≤ g) (hw : w ∈ alpha) :
    Pfx (isW w) (ws ++ [w]) (cs ++ List.replicate g 32 ++ w.cps.toList) (sp ++ [cs.length + g]) := fun ws2 cs2 sp2 h => by
  have h1 : Laid b (w :: ws2) (List.replicate g 32 ++ (w.cps.toList ++ cs2)) cs.length ((cs.length + g) :: sp2) := by
    have h2 : ∀ b', (isW w = true → b' = false) → Laid b' (w :: ws2) (w.cps.toList ++ cs2) (cs.length + g) ((cs.length + g) :: sp2) := fun b' hb => .word hb hw (by
      rw [List.length_append, List.length_append, List.length_replicate] at h
      exact h)
    refine laid_blanks g (fun e => ?_) (h2 false fun _ => rfl)
    subst e
    refine h2 b fun z => ?_
    cases b with
    | false => rfl
    | true => have := hg rfl z; lia
  have := x _ _ _ h1
  simpa [List.append_assoc] using this
theorem alpha_ok : ∀ w ∈ alpha, (w.cps.all (· < 128)) = true ∧ w.cps.size ≤ 5 ∧ 1 ≤ w.cps.size := by decide +kernel
theorem alpha_w : ∀ w ∈ alpha, isW w = true → (w.cps.toList.all fun c => !sepC c) = true := by decide +kernel
theorem alpha_s : ∀ w ∈ alpha, isW w = false → w = "(" ∨ w = ")" ∨ w = ":" := by decide +kernel
/-- the lexer's rules -/
inductive Lx (cs : List Nat) : Nat → List (Str × Nat) → Prop
  | done {i : Nat} : cs.length ≤ i → Lx cs i []
  | word {i j : Nat} {r : List (Str × Nat)} : i < j → j ≤ cs.length → (∀ k, i ≤ k → k < j → ∃ c, cs[k]? = some c ∧ sepC c = false) → (∀ c, cs[j]? = some c → sepC c = true) → Lx cs j r → Lx cs i ((⟨((cs.drop i).take (j - i)).toArray⟩, i) :: r)
  | sign {i c : Nat} {r : List (Str × Nat)} : cs[i]? = some c → (c = 40 ∨ c = 41 ∨ c = 58) → Lx cs (i + 1) r → Lx cs i ((⟨#[c]⟩, i) :: r)
  | blank {i : Nat} {r : List (Str × Nat)} : cs[i]? = some 32 → Lx cs (i + 1) r → Lx cs i r
theorem laid_sep {ws : List Str} {cs sp : List Nat} {o : Nat} (h : Laid true ws cs o sp) : ∀ c, cs[0]? = some c → sepC c = true := by
  cases h with
  | nil => intro c e; cases e
  | blank h => intro c e; cases e; decide +kernel
  | @word _ _ w _ _ _ h1 h2 h3 =>
    intro c e
    have hw : isW w = false := by cases q : isW w with
      | false => rfl
      | true => cases h1 q
    rcases alpha_s w h2 hw with rfl | rfl | rfl <;> (cases e; decide +kernel)
theorem laid_lx {b : Bool} {ws : List Str} {cs sp : List Nat} {o : Nat} (h : Laid b ws cs o sp) : ∀ (pre : List Nat), pre.length = o → Lx (pre ++ cs) o (ws.zip sp) := by
  induction h with
  | nil => intro pre e; exact .done (by simp; lia)
  | @blank b o ws cs sp h ih =>
    intro pre e
    refine .blank (by rw [List.getElem?_append_right (by lia)]; simp [e]) ?_
    have := ih (pre ++ [32]) (by simp; lia)
    simpa using this
  | @word b o w ws cs sp h1 h2 h3 ih =>
    intro pre e
    have h4 := ih (pre ++ w.cps.toList) (by simp; lia)
    rw [List.append_assoc] at h4
    have hlen : (pre ++ (w.cps.toList ++ cs)).length = o + w.cps.toList.length + cs.length := by simp; lia
    cases hw : isW w with
    | true =>
      have hsz := (alpha_ok w h2).2.2
      have hall := List.all_eq_true.mp (alpha_w w h2 hw)
      rw [hw] at h3
      have hget : ∀ k, o + k < o + w.cps.toList.length → (pre ++ (w.cps.toList ++ cs))[o + k]? = w.cps.toList[k]? := fun k hk => by
        rw [List.getElem?_append_right (by lia), List.getElem?_append_left (by lia)]
        congr 1; lia
      have := Lx.word (cs := pre ++ (w.cps.toList ++ cs)) (i := o) (j := o + w.cps.toList.length) (by rw [Array.length_toList]; lia) (by lia) (fun k k1 k2 => ?_) (fun c hc => ?_) h4
      · rw [show o + w.cps.toList.length - o = w.cps.toList.length from by lia] at this
        rw [show (pre ++ (w.cps.toList ++ cs)).drop o = w.cps.toList ++ cs from by rw [← e, List.drop_left]] at this
        rw [List.take_left, Array.toArray_toList] at this
        exact this
      · obtain ⟨d, rfl⟩ : ∃ d, k = o + d := ⟨k - o, by lia⟩
        have hd : d < w.cps.toList.length := by lia
        refine ⟨w.cps.toList[d], by rw [hget d (by lia), List.getElem?_eq_getElem hd], ?_⟩
        have := hall _ (List.getElem_mem hd)
        simpa using this
      · refine laid_sep h3 c ?_
        rw [List.getElem?_append_right (by lia), List.getElem?_append_right (by lia)] at hc
        rw [show o + w.cps.toList.length - pre.length - w.cps.toList.length = 0 from by lia] at hc
        exact hc
    | false =>
      have fin : ∀ c : Nat, w = ⟨#[c]⟩ → (c = 40 ∨ c = 41 ∨ c = 58) → Lx (pre ++ (w.cps.toList ++ cs)) o ((w, o) :: ws.zip sp) := by
        intro c hc hk
        subst hc
        exact .sign (by rw [List.getElem?_append_right (by lia)]; simp [e]) hk h4
      rcases alpha_s w h2 hw with rfl | rfl | rfl
      · exact fin 40 rfl (.inl rfl)
      · exact fin 41 rfl (.inr (.inl rfl))
      · exact fin 58 rfl (.inr (.inr rfl))
end Mine
end

section
open PySem PySem.W PyProof.Rows PySem.Calls PySem.Spec
set_option autoImplicit false
namespace Mine
theorem warmsg (w : World) (h : Heap) : (hd.heap_39 w.params).In h → PySem.Challenge.rw_rh0003_01.prog = PySem.Challenge.rw_rh0003_01.prog := by
  k_fill
  intro _
  rfl
noncomputable def isEn (it : Addr) (i : Nat) (o : Obj) : Prop := ∃ old, o = { cls := .type "enumerate", dict := none, data := .fields #[.none, .bool false, .ref it, rawInt i, .none, old], slots := #[] }
section
variable {W : Wd} {G : Heap} {L : Addr} {m : List (Str × Value)} {news news' pre post : List (Addr × (Obj → Prop))} {s : Shared} {A : Around} {E : Value → Shared → Prop} {env : Env} {v : Value} {pos : Pos}
  {Q : Value → Shared → Prop} {fx rl : Addr} {fs : List Env} {n B : Nat} {e it l : Addr} {i : Nat} {items : Array Value} {x : Value}
theorem Led.re {s' : Shared} (D : Led W G L m news s) (ds : List Addr) (hds : ∀ d ∈ ds, ∃ p ∈ news, p.1 = d) (k : ∀ b o, s.heap.get? b = some o → b ∉ ds → s'.heap.get? b = some o)
    (ha : news'.map (·.1) = news.map (·.1)) (h : ∀ p ∈ news', ∃ o, s'.heap.get? p.1 = some o ∧ p.2 o) (hg : s'.gens = s.gens := by rfl) (ho : s'.os = s.os := by rfl) : Led W G L m news' s' := by
  obtain ⟨m₀, ⟨oL, es, ep, hL, r⟩, hm⟩ := D.ns
  refine ⟨D.hs.to (fun b o q => k b o (D.hs.keep b o q) fun z => ?_) hg ho, ⟨m₀, ⟨oL, es, ep, k L oL hL fun z => ?_, r⟩, hm⟩, D.off, fun p hp => ?_, ha ▸ D.nd⟩
  · obtain ⟨p, hp, rfl⟩ := hds b z
    rw [(D.nw p hp).2.2] at q; cases q
  · obtain ⟨p, hp, e⟩ := hds L z
    exact (D.nw p hp).2.1 e
  · obtain ⟨q, hq, e⟩ := List.mem_map.mp (show p.1 ∈ news.map (·.1) from by rw [← ha]; exact List.mem_map_of_mem (f := (·.1)) hp)
    have := (D.nw q hq).2
    rw [e] at this
    exact ⟨h p hp, this⟩
theorem en_new {k : Nat} (D : Led W G L m news s) (hl : s.heap.get? l = some (lstOf items k)) (h : ∀ e it s', Led W G L m ((e, isEn it 0) :: (it, isIt "list_iterator" (.ref l) 0) :: news) s' → Q (.ref e) s') :
    wpAny (model pw W.w) A (call (.type "enumerate") [.ref l]) (fun v s' => wpAny (model pw W.w) A (pyIter v) Q E s') E s := by
  refine call_enumerate_list (isList_of hl) fun h' he hit hz hk => ?_
  refine wpAny_pyIter_enum he ?_
  have n0 : s.heap.get? s.heap.objs.size = none := Heap.get?_none_of_le (Nat.le_refl _)
  have n1 : s.heap.get? (s.heap.objs.size + 1) = none := Heap.get?_none_of_le (Nat.le_succ _)
  have D₁ : Led W G L m news { s with heap := h' } := D.kept (s' := { s with heap := h' }) hk
  have gn : ∀ a, s.heap.get? a = none → G.get? a = none := fun a ha => by
    cases q : G.get? a with
    | none => rfl
    | some o => have := D.hs.keep _ _ q; rw [ha] at this; cases this
  have nL : ∀ a, s.heap.get? a = none → a ≠ L := fun a ha z => by
    obtain ⟨m₀, ⟨oL, es, ep, hL, r⟩, hm⟩ := D.ns
    rw [z, hL] at ha; cases ha
  have nn : ∀ a, s.heap.get? a = none → ∀ p ∈ news, p.1 ≠ a := fun a ha p hp z => by
    obtain ⟨⟨o, q, _⟩, _⟩ := D.nw p hp
    rw [z, ha] at q; cases q
  obtain ⟨oi, hoi, hci, hdi⟩ := hit
  have D₂ := D₁.more (d := s.heap.objs.size) (P := isIt "list_iterator" (.ref l) 0) ⟨oi, hoi, hci, hdi⟩ (gn _ n0) (nL _ n0) (nn _ n0)
  refine h _ _ _ (D₂.more ⟨_, he, _, rfl⟩ (gn _ n1) (nL _ n1) fun p hp => ?_)
  rcases List.mem_cons.mp hp with rfl | hp
  · exact Nat.ne_of_lt (Nat.lt_succ_self _)
  · exact nn _ n1 p hp
theorem nx_en {E2 E3 : Value → Shared → Prop} {xi xv : Str} {pi pv pt : Pos} {k k1 : Nat} {Q : Shared → Prop} (hh : A.handled = none) (D : Led W G L m ((e, isEn it i) :: (it, isIt "list_iterator" (.ref l) i) :: news) s) (hl : s.heap.get? l = some (lstOf items k)) (hle : l ≠ e) (hli : l ≠ it) (hx : items[i]? = some x)
    (h : ∀ s' t, Led W G L ((xv, x) :: (xi, .int i t) :: m) ((e, isEn it (i + 1)) :: (it, isIt "list_iterator" (.ref l) (i + 1)) :: news) s' → Q s') (hL : env.locals = L := by rfl)
    (hk : env.scope.kind = .function := by rfl) (h1 : env.kindOf xi = some .local := by rfl) (h2 : env.kindOf xv = some .local := by rfl) :
    wpAny (model pw W.w) A (pyNext (.ref e)) (fun r s' => ∃ v, r = some v ∧ wpAny (model pw W.w) A (letOwnedTupleGo (.Tuple [.Name xi pi, .Name xv pv] k1 pt) (.ref e) v) (fun _ s₁ => wpAny (model pw W.w) A (assign (.Tuple [.Name xi pi, .Name xv pv] k1 pt) env v) (fun _ s₂ => Q s₂) E3 s₁) E2 s') E s := by
  obtain ⟨_, he, old, rfl⟩ := D.get (.head _)
  obtain ⟨oi, hoi, hci, hdi⟩ := D.get (.tail _ (.head _))
  have nd := D.nd
  simp only [List.map_cons, List.nodup_cons, List.mem_cons, not_or] at nd
  refine wpAny_pyNext_enum_item he ⟨oi, hoi, hci, hdi⟩ (isList_of hl) hx nd.1.1 fun h₁ heo hit₁ ht₁ hz₁ hk₁ => ⟨_, rfl, ?_⟩
  refine wpAny_letOwnedTupleGo_enum heo fun h₂ he₂ hs₂ => ?_
  replace hs₂ : Heap.SameBut e h₁ h₂ := hs₂
  have heS : e < s.heap.objs.size := Heap.lt_size he
  have ht₂ := (hs₂.2 _ (Nat.ne_of_gt heS)).trans ht₁
  refine wpAny_assign_Tuple hh ⟨_, ht₂, rfl, _, rfl⟩ rfl rfl fun h₃ hx₃ => ?_
  replace hx₃ : Heap.ExtBut h₂.objs.size h₂ h₃ := hx₃
  have up : ∀ b o, h₂.get? b = some o → h₃.get? b = some o := fun b o q => hx₃ b o (Nat.ne_of_lt (Heap.lt_size q)) q
  obtain ⟨oi', hoi', hci', hdi'⟩ := hit₁
  have D₃ : Led W G L m ((e, isEn it (i + 1)) :: (it, isIt "list_iterator" (.ref l) (i + 1)) :: news) { s with heap := h₃, toks := s.toks + 1 } := by
    refine D.re (s' := { s with heap := h₃, toks := s.toks + 1 }) [e, it] (fun d hd => ?_) (fun b o q nb => ?_) rfl fun p hp => ?_
    · rcases List.mem_cons.mp hd with rfl | hd
      · exact ⟨_, .head _, rfl⟩
      · rw [List.mem_singleton.mp hd]; exact ⟨_, .tail _ (.head _), rfl⟩
    · simp only [List.mem_cons, List.not_mem_nil, or_false, not_or] at nb
      exact up _ _ ((hs₂.2 b nb.1).trans (hk₁ b o nb.1 nb.2 q))
    · rcases List.mem_cons.mp hp with rfl | hp
      · exact ⟨_, up _ _ he₂, x, by rw [show (((i + 1 : Nat) : Int)) = (i : Int) + 1 from by lia]⟩
      rcases List.mem_cons.mp hp with rfl | hp
      · exact ⟨oi', up _ _ ((hs₂.2 it (Ne.symm nd.1.1)).trans hoi'), hci', hdi'⟩
      · obtain ⟨⟨o, q, z⟩, _⟩ := D.nw p (.tail _ (.tail _ hp))
        have n1 : p.1 ≠ e := fun z => nd.1.2 (by rw [← z]; exact List.mem_map_of_mem (f := (·.1)) hp)
        have n2 : p.1 ≠ it := fun z => nd.2.1 (by rw [← z]; exact List.mem_map_of_mem (f := (·.1)) hp)
        exact ⟨o, up _ _ ((hs₂.2 _ n1).trans (hk₁ _ o n1 n2 q)), z⟩
  show wpAny (model pw W.w) A (do holding [x] (assign (.Name xi pi) env (.int i s.toks)); do holding [] (assign (.Name xv pv) env x); pure ()) _ _ _
  refine wpAny_bind (wpAny_holding (wpAny_assign_Name (s_locE D₃ (fun s₄ D₄ => ?_) hL hk h1)))
  exact wpAny_bind (wpAny_holding (wpAny_assign_Name (s_locE D₄ (fun s₅ D₅ => wpAny_pure (h _ _ D₅)) hL hk h2)))
theorem end_en {k : Nat} {Q : Option Value → Shared → Prop} (hh : A.handled = none) (D : Led W G L m ((e, isEn it i) :: (it, isIt "list_iterator" (.ref l) i) :: news) s) (hl : s.heap.get? l = some (lstOf items k)) (hx : items[i]? = none)
    (h : ∀ s', Led W G L m news s' → Q none s') : wpAny (model pw W.w) A (pyNext (.ref e)) Q E s := by
  obtain ⟨_, he, old, rfl⟩ := D.get (.head _)
  obtain ⟨oi, hoi, hci, hdi⟩ := D.get (.tail _ (.head _))
  refine wpAny_pyNext_enum_end hh he ⟨oi, hoi, hci, hdi⟩ (isList_of hl) hx fun h₁ he₁ => ?_
  have D₁ := D.perm (.swap _ _ _)
  have D₂ := D₁.drop (s' := { s with heap := h₁ }) fun b o nb q => he₁ b o nb q
  exact h _ (D₂.less (List.sublist_cons_self _ _))
theorem h263 : ∃ (vs : List Value) (k : Nat), StrsAre vs signs ∧ (hd.heap_39 W.w.params).lookup 263 = some (tupOf vs k) := by
  refine obj_of (a := 263) (K := hd.heap_39 W.w.params) (o := ⟨_, _, .seq _ _, _⟩) (by k_is) fun e => ?_
  exact ⟨_, _, .cons _ _ (.cons _ _ (.cons _ _ (.cons _ _ (.cons _ _ .nil)))), e⟩
theorem fmg_signs : nsIn (hd.heap_39 W.w.params) mainGlobals "_law_signs" = some (some (.ref 263)) := by k_is
theorem fmg_enum : nsIn (hd.heap_39 W.w.params) mainGlobals "enumerate" = some none := by k_is
theorem fmg_laid : nsIn (hd.heap_39 W.w.params) mainGlobals "_law_laid" = some (some (.ref 306)) := by k_is
theorem k306 : keepIn (hd.heap_39 W.w.params) (.ref 306) = true := by k_is
noncomputable def spc (g : Nat) : Str := ⟨(List.replicate g 32).toArray⟩
theorem mul_spc {g : Nat} (h : g ≤ 4) : Txt.mul (Str.ofString " ") (g : Int) = spc g := by
  rcases g with _ | _ | _ | _ | _ | g <;> first | decide +kernel | lia
theorem mul_ok {g : Nat} (h : g ≤ 4) : MulOk (Str.ofString " ") (g : Int) := by
  rcases g with _ | _ | _ | _ | _ | g <;> first | (unfold MulOk; decide +kernel) | lia
noncomputable def txt (cs : List Nat) : Str := ⟨cs.toArray⟩
theorem txt_app (a b : List Nat) : txt a ++ txt b = txt (a ++ b) := by
  show (⟨a.toArray ++ b.toArray⟩ : Str) = ⟨(a ++ b).toArray⟩
  simp
theorem txt_w (w : Str) : w = txt w.cps.toList := by obtain ⟨⟨l⟩⟩ := w; rfl
theorem txt_len (cs : List Nat) : (txt cs).length = cs.length := by show cs.toArray.size = _; simp
end
end Mine
end

section
open PySem PySem.W PyProof.Rows PySem.Calls PySem.Spec
set_option autoImplicit false
namespace Mine
theorem warmsh (w : World) (h : Heap) : (hd.heap_39 w.params).In h → PySem.Challenge.rw_rh0003_01.prog = PySem.Challenge.rw_rh0003_01.prog := by
  k_fill
  intro _
  rfl
noncomputable def prevW (ws : List Str) : Nat → Bool
  | 0 => false
  | i + 1 => isW (ws.getD i "")
theorem ints_app : ∀ {a b : List Value} {x y : List Int}, IntsAre a x → IntsAre b y → IntsAre (a ++ b) (x ++ y)
  | _, _, _, _, .nil, h => h
  | _, _, _, _, .cons x t r, h => .cons x t (ints_app r h)
theorem ints_len : ∀ {a : List Value} {x : List Int}, IntsAre a x → a.length = x.length
  | _, _, .nil => rfl
  | _, _, .cons _ _ r => by simp [ints_len r]
section
variable {W : Wd} {G : Heap} {L : Addr} {m : List (Str × Value)} {news news' pre post : List (Addr × (Obj → Prop))} {s : Shared} {A : Around} {E : Value → Shared → Prop} {env : Env} {v : Value} {pos : Pos}
  {Q : Value → Shared → Prop} {fx rl : Addr} {fs : List Env} {n B : Nat}
theorem lens_call {o : Str} {p1 p2 p3 : Pos} {y : Str} {ty : Tok} {qn : Str} {sc : Scope} {fa : Addr} {cd : Value} (D : Led W G L m news s) (hv : lk m o = some (.str y ty)) (hz : y.length ≤ 100000)
    (h : ∀ s' t, Led W G L m news s' → Q (.int y.length t) s')
    (hk : sc.kind = .function := by rfl) (h1 : (envOf qn sc L fa cd).kindOf "len" = some .globalImplicit := by rfl) (h2 : (envOf qn sc L fa cd).kindOf o = some .local := by rfl) (hdb : (o == ("__debug__" : Str)) = false := by decide)
    (hs : starEach [.Name o p2] (envOf qn sc L fa cd) = (false, eval (.Name o p2) (envOf qn sc L fa cd)) :: starEach [] (envOf qn sc L fa cd) := by rfl) :
    wpAny (model pw W.w) A (eval (.Call (.Name "len" p1) [.Name o p2] [] p3) (envOf qn sc L fa cd)) Q E s := by
  refine Call_ (n_blt D (mg_none D.hs.st fmg_len) rfl (kb1 (spliced_more (n_loc D hv (spliced_none ?_) hk h2 hdb) hs) rfl hs (by rfl)) hk h1)
  exact PyProof.Rows.len_str (by lia) (h _ _ (D.tok _))
/-- word not in _law_signs -/
theorem ns_test {e : Expr} {w : Str} {p1 p2 : Pos} {qn : Str} {sc : Scope} {fa : Addr} {cd : Value} {whole : Sem Value} {QB : Bool → Shared → Prop}
    (h : wpAny (model pw W.w) A (eval e (envOf qn sc L fa cd)) (fun v s₁ => ∃ G m news tw, v = .str w tw ∧ Led W G L m news s₁ ∧ ∀ s', Led W G L m news s' → QB (isW w) s') E s)
    (hk : sc.kind = .function := by rfl) (h1 : (envOf qn sc L fa cd).kindOf "_law_signs" = some .globalImplicit := by rfl)
    : wpAny (model pw W.w) A (PySem.isTrue (.Compare e [.NotIn] [.Name "_law_signs" p1] p2) (envOf qn sc L fa cd) whole) QB E s := by
  refine wpAny_isTrue_Compare1 (wpAny_mono h (fun v s₁ h₁ => ?_) fun _ _ z => z)
  refine hideP fun PH1 hPH1 => ?_
  obtain ⟨G, m, news, tw, rfl, D, hq⟩ := h₁
  subst hPH1
  obtain ⟨vs, k, hS, hl⟩ := h263 (W := W)
  refine n_glb D (mg_some D.hs.st fmg_signs) ?_ hk h1
  refine notin_tuple_strs (isTup_of (D.hs.X _ _ hl)) (ys := signs) hS (wpAny_truthy_bool ?_)
  exact hq _ D
inductive LaidI (W : Wd) (e it fx sl rl lw L : Addr) (B : Nat) (ws : List Str) (G₆ : Heap) (i : Nat) (s' : Shared) : Prop
  | mk (cs sp : List Nat) (spv : List Value) (tt : Tok) (mI : List (Str × Value)) (G' : Heap) (_ : Led W G' L mI [(e, isEn it i), (it, isIt "list_iterator" (.ref lw) i), (fx, isFd W rl (B + 1 + i)), (sl, isL spv.toArray)] s') (_ : lk mI "feed" = some (.ref fx)) (_ : lk mI "words" = some (.ref lw)) (_ : lk mI "text" = some (.str (txt cs) tt)) (_ : lk mI "spots" = some (.ref sl)) (_ : IntsAre spv (sp.map Int.ofNat)) (_ : Pfx (prevW ws i) (ws.take i) cs sp) (_ : cs.length ≤ 2 + 8 * i) (_ : sp.length = i) (_ : G₆.StaysIn G') : LaidI W e it fx sl rl lw L B ws G₆ i s'
theorem c_laid {lw : Addr} {ws : List Str} (hs : Hs W G s) (hdp : A.depth + 5 ≤ 990) (hh : A.handled = none) (R : Row G fx rl) (hG : G.get? fx = none) (hf : ∃ o, s.heap.get? fx = some o ∧ isFd W rl B o) (hB : B + 1 + ws.length ≤ 1000000)
    (hS : StrL G lw ws) (hal : ∀ w ∈ ws, w ∈ alpha) (hN : ws.length ≤ 1000)
    (k : ∀ s' a l2 cs sp t n1 n2 spv, Hs W (hid s.heap [fx]) s' → (∃ o, s'.heap.get? fx = some o ∧ isFd W rl (B + 1 + ws.length) o) → s.heap.get? l2 = none →
      s'.heap.get? a = some (tupOf [.str (txt cs) t, .ref l2] n1) → s'.heap.get? l2 = some (lstOf (spv : List Value).toArray n2) → IntsAre spv ((sp ++ [cs.length]).map Int.ofNat) → Laid false ws cs 0 sp → cs.length ≤ 2 + 8 * ws.length → sp.length = ws.length → Q (.ref a) s') :
    wpAny (model pw W.w) A (call (.ref 306) [.ref fx, .ref lw]) Q E s := by
  obtain ⟨hs', st'⟩ := mv_dx hs hG
  have R := R.mono st'
  obtain ⟨vs, nl, hl, hSt⟩ := hS.mono st'
  have hlen : vs.length = ws.length := strs_len hSt
  refine enterC [("words", .ref lw), ("feed", .ref fx)] (news := [(fx, isFd W rl B)]) hs' (fun q hq => by rw [List.mem_singleton.mp hq]; exact ⟨hf, hid_none (.head _)⟩) (by simp) (by k_is) (by k_is) (show A.depth < 1000 by lia) rfl rfl rfl rfl rfl (by decide) fun L s₁ D stk hL => ?_
  refine hide fun Qe Ee hQe hEe => ?_
  have hd' : ∀ env, (A.deeper env).depth < recursionLimit := fun env => show A.depth + 1 < 1000 by lia
  refine x_asg2 hh ?_
  refine Tuple_ ?_
  refine spliced_more ?_
  refine wpAny_BinOp ?_
  refine e_str D fun s₂ t₂ D₂ => ?_
  refine p_call (many := 2) D₂ R (lk_tl lk_hd) (hd' _) (by lia) (by decide) (fun s' D' => e_int D' fun s'' t'' D'' => ⟨t'', rfl, D''⟩) fun s₃ g tg D₃ hg => ?_
  refine PySem.SB.mul (mul_ok (by lia)) fun t₄ k₄ => ?_
  rw [mul_spc (by lia)]
  have D₄ := D₃.tok k₄
  refine spliced_more ?_
  refine List_ (spliced_none ?_)
  refine l_new D₄ (by size_fits) fun sl s₅ D₅ => ?_
  refine spliced_none ?_
  refine t_gr D₅ (by size_fits) fun tt s₆ G₆ D₆ g₆ htt => ?_
  refine ⟨G₆, _, _, tt, _, _, 0, rfl, D₆, D₆.at htt, fun s₇ D₇ => ?_⟩
  have hl₆ := g₆ _ _ hl
  have R := R.mono g₆
  have D₇ := D₇.perm (.swap _ _ _)
  refine x_forH fun Q₁ E₁ hQ₁ hE₁ => ?_
  refine Call_ (n_blt D₇ (mg_none hs.st fmg_enum) rfl (kb1 (spliced_more ?_)))
  refine n_loc D₇ (lk_tl (lk_tl lk_hd)) ?_
  refine spliced_none ?_
  refine en_new D₇ (D₇.at hl₆) fun e it s₈ D₈ => ?_
  refine ⟨LaidI W e it fx sl rl lw L B ws G₆, ws.length, ?_, ?_, ?_⟩
  · exact ⟨List.replicate g 32, [], [], t₄, [("text", .str (txt (List.replicate g 32)) t₄), ("spots", .ref sl), ("words", .ref lw), ("feed", .ref fx)], G₆, D₈, lk_tl (lk_tl (lk_tl lk_hd)), lk_tl (lk_tl lk_hd), lk_hd, lk_tl lk_hd, .nil, by rw [List.take_zero]; exact Pfx.start g, by rw [List.length_replicate]; lia, rfl, fun _ _ z => z⟩
  · rintro s₉ ⟨cs, sp, spv, tt, mI, G', D₉, l1, l2, l3, l4, hI, hP, hc, hsp, g'⟩
    refine end_en hh D₉ (D₉.at (g' _ _ hl₆)) (by simp; lia) fun s₁₀ D₁₀ => ⟨rfl, ?_⟩
    have hsv : spv.length = sp.length := by rw [ints_len hI, List.length_map]
    refine x_ret ?_
    refine Tuple_ ?_
    refine spliced_more ?_
    refine n_loc D₁₀ l3 ?_
    refine spliced_more ?_
    refine wpAny_BinOp ?_
    refine n_loc D₁₀ l4 ?_
    refine List_ ?_
    refine spliced_more ?_
    refine lens_call D₁₀ l3 (by rw [txt_len]; lia) fun s₁₁ t₁₁ D₁₁ => ?_
    refine spliced_none (l_new D₁₁ (by size_fits) fun q s₁₂ D₁₂ => ?_)
    obtain ⟨n1, h1⟩ := isL_get (D₁₂.nw (sl, isL _) (.tail _ (.tail _ (.head _)))).1
    obtain ⟨n2, h2⟩ := isL_get (D₁₂.get (.head _))
    refine l_add D₁₂ h1 h2 (by rw [sizeLine_eq]; simp; lia) fun l5 s₁₃ D₁₃ na5 => ?_
    have D₁₄ := D₁₃.perm (news' := [(l5, isL _), (fx, isFd W rl (B + 1 + ws.length)), (q, isL _), (sl, isL _)]) (.cons _ (.swap _ _ _))
    have gall : (hid s.heap [fx]).StaysIn G' := fun b o e => g' b o (g₆ b o e)
    have hl5 := newl D₁₄ gall
    refine spliced_none ?_
    refine t_new D₁₄ (by size_fits) fun ta s₁₅ D₁₅ => ?_
    obtain ⟨_, hta, rfl⟩ := D₁₅.get (.head _)
    obtain ⟨n5, h5⟩ := isL_get (D₁₅.get (.tail _ (.head _)))
    have D₁₆ := D₁₅.lo gall hs'.top
    rw [txt_len] at h5
    have h6 := k s₁₅ ta l5 cs sp tt 0 n5 (spv ++ [.int cs.length t₁₁]) D₁₆.hs ((D₁₆.less (.cons _ (List.sublist_cons_self _ _))).get (.head _)) hl5 hta (by rw [h5]) (by rw [List.map_append]; exact ints_app hI (.cons _ _ .nil)) (by have := hP.fin; rw [List.take_of_length_le (Nat.le_refl _)] at this; exact this) hc hsp
    subst hQ₁
    subst hQe; exact ret_v h6
  · rintro B₁ T₁ hB₁ hT₁ i s₉ hi ⟨cs, sp, spv, tt, mI, G', D₉, l1, l2, l3, l4, hI, hP, hc, hsp, g'⟩
    have hsv : spv.length = sp.length := by rw [ints_len hI, List.length_map]
    obtain ⟨w, hw⟩ : ∃ w, ws[i]? = some w := ⟨_, List.getElem?_eq_getElem hi⟩
    obtain ⟨tw, hvw⟩ := (strs_at hSt).2 i w hw
    have hwa := hal w (List.mem_of_getElem? hw)
    have hok := alpha_ok w hwa
    have nd := D₉.nd
    have hnG : ∀ p ∈ [(e, isEn it i), (it, isIt "list_iterator" (.ref lw) i), (fx, isFd W rl (B + 1 + i)), (sl, isL spv.toArray)], lw ≠ p.1 := fun p hp z => by
      have h1 := (D₉.nw p hp).2.2
      rw [← z, g' _ _ hl₆] at h1; cases h1
    refine nx_en hh D₉ (D₉.at (g' _ _ hl₆)) (hnG _ (.head _)) (hnG _ (.tail _ (.head _))) (by simpa using hvw) fun s₁₀ ti D₁₀ => ?_
    refine x_asg ?_
    refine wpAny_mono (Q := fun v s' => ∃ (lst : Nat) (t : Tok), v = .int lst t ∧ lst ≤ 1 ∧ (prevW ws i = true → isW w = true → lst = 1) ∧ Led W G' L (("word", .str w tw) :: ("k", .int i ti) :: mI) [(e, isEn it (i + 1)), (it, isIt "list_iterator" (.ref lw) (i + 1)), (fx, isFd W rl (B + 1 + i)), (sl, isL spv.toArray)] s') (IfExp_ ?_) (fun v s₁₁ h₁₁ => ?_) fun _ _ z => z
    · refine isTrue_and ?_
      refine wpAny_isTrue_Compare1 ?_
      refine n_loc D₁₀ (lk_tl lk_hd) ?_
      refine e_int D₁₀ fun s₁₁ t₁₁ D₁₁ => ?_
      refine gt_int (wpAny_truthy_bool ?_)
      rcases i with _ | i
      · rw [if_neg (by decide), if_neg (by decide)]
        exact e_int D₁₁ fun s₁₂ t₁₂ D₁₂ => ⟨0, t₁₂, rfl, by lia, fun z => absurd (show false = true from z) (by decide), D₁₂⟩
      · first | refine if_yes (show decide ((0 : Int) < ((i + 1 : Nat) : Int)) = true from decide_eq_true (by lia)) ?_ | rw [show decide ((0 : Int) < ((i + 1 : Nat) : Int)) = true from decide_eq_true (by lia), if_pos rfl]
        refine isTrue_and ?_
        refine ns_test (n_loc D₁₁ lk_hd ⟨_, _, _, _, rfl, D₁₁, fun s₁₂ D₁₂ => ?_⟩)
        cases hiw : isW w with
        | false =>
          rw [if_neg (by decide), if_neg (by decide)]
          exact e_int D₁₂ fun s₁₃ t₁₃ D₁₃ => ⟨0, t₁₃, rfl, by lia, fun _ z => absurd z (by decide), D₁₃⟩
        | true =>
          first | refine if_yes rfl ?_ | rw [if_pos rfl]
          obtain ⟨w0, hw0⟩ : ∃ w0, ws[i]? = some w0 := ⟨_, List.getElem?_eq_getElem (by lia)⟩
          obtain ⟨tw0, hvw0⟩ := (strs_at hSt).2 i w0 hw0
          have hpw : prevW ws (i + 1) = isW w0 := by show isW (ws.getD i "") = _; rw [List.getD_eq_getElem?_getD, hw0]; rfl
          refine isTrue_and ?_
          refine ns_test (w := w0) ?_
          refine Subscript_ ?_
          refine n_loc D₁₂ (lk_tl (lk_tl l2)) ?_
          refine wpAny_BinOp ?_
          refine n_loc D₁₂ (lk_tl lk_hd) ?_
          refine e_int D₁₂ fun s₁₃ t₁₃ D₁₃ => ?_
          refine PyProof.Rows.sub_int ?_
          have D₁₄ := D₁₃.tok (s₁₃.toks + 1)
          refine li_get (D₁₄.at (g' _ _ hl₆)) (k := i) (by lia) (by lia) (by simpa using hvw0) ?_
          refine ⟨_, _, _, _, rfl, D₁₄, fun s₁₅ D₁₅ => ?_⟩
          rw [hpw]
          cases hiw0 : isW w0 with
          | false =>
            rw [if_neg (by decide), if_neg (by decide)]
            exact e_int D₁₅ fun s₁₆ t₁₆ D₁₆ => ⟨0, t₁₆, rfl, by lia, fun z => absurd z (by decide), D₁₆⟩
          | true =>
            first | refine if_yes rfl ?_ | rw [if_pos rfl]
            refine isTrue_and_nil ?_
            first | refine if_yes rfl ?_ | rw [if_pos rfl]
            exact e_int D₁₅ fun s₁₆ t₁₆ D₁₆ => ⟨1, t₁₆, rfl, by lia, fun _ _ => rfl, D₁₆⟩
    refine hideP fun PH2 hPH2 => ?_
    obtain ⟨lst, tl, rfl, hl1, hlst, D₁₁⟩ := h₁₁
    subst hPH2
    refine s_loc D₁₁ fun s₁₂ D₁₂ => ?_
    refine x_asg ?_
    refine wpAny_BinOp ?_
    refine n_loc D₁₂ (lk_tl (lk_tl (lk_tl l3))) ?_
    refine wpAny_BinOp ?_
    refine e_str D₁₂ fun s₁₃ t₁₃ D₁₃ => ?_
    refine wpAny_BinOp ?_
    refine n_loc D₁₃ lk_hd ?_
    have D₁₃ := D₁₃.perm (news' := [(fx, isFd W rl (B + 1 + i)), (e, isEn it (i + 1)), (it, isIt "list_iterator" (.ref lw) (i + 1)), (sl, isL spv.toArray)]) (.trans (.cons _ (.swap _ _ _)) (.swap _ _ _))
    refine p_call (many := 2) D₁₃ (R.mono g') (lk_tl (lk_tl (lk_tl l1))) (hd' _) (by lia) (by decide) (fun s' D' => e_int D' fun s'' t'' D'' => ⟨t'', rfl, D''⟩) fun s₁₄ b tb D₁₄ hb => ?_
    refine P.add_int ?_
    rw [show ((lst : Int) + (b : Int)) = ((lst + b : Nat) : Int) from by lia]
    refine PySem.SB.mul (mul_ok (by lia)) fun t₁₅ k₁₅ => ?_
    rw [mul_spc (by lia)]
    refine PyProof.Rows.add_str (fun t₁₆ k₁₆ => ?_) (by rw [txt_len, show (spc (lst + b)).length = lst + b from by show (List.replicate (lst + b) 32).toArray.size = _; simp, sizeLine_eq]; lia)
    rw [show spc (lst + b) = txt (List.replicate (lst + b) 32) from rfl, txt_app]
    refine s_loc ((D₁₄.tok k₁₅).tok k₁₆) fun s₁₇ D₁₇ => ?_
    have D₁₇ := D₁₇.perm (news' := [(fx, isFd W rl (B + 1 + i + 1)), (e, isEn it (i + 1)), (it, isIt "list_iterator" (.ref lw) (i + 1)), (sl, isL spv.toArray)]) (.refl _)
    refine x_append (pre := [(fx, isFd W rl (B + 1 + i + 1)), (e, isEn it (i + 1)), (it, isIt "list_iterator" (.ref lw) (i + 1))]) D₁₇ (lk_tl (lk_tl (lk_tl (lk_tl l4)))) ?_
    have hcl : (cs ++ List.replicate (lst + b) 32).length = cs.length + (lst + b) := by rw [List.length_append, List.length_replicate]
    refine lens_call D₁₇ lk_hd (by rw [txt_len, hcl]; lia) fun s₁₈ t₁₈ D₁₈ => ?_
    rw [txt_len, hcl]
    refine ⟨G', _, [(fx, isFd W rl (B + 1 + i + 1)), (e, isEn it (i + 1)), (it, isIt "list_iterator" (.ref lw) (i + 1))], [], _, D₁₈, by rw [sizeLine_eq]; simp; lia, fun s₁₉ D₁₉ => ?_⟩
    refine x_asg ?_
    refine wpAny_BinOp ?_
    refine n_loc D₁₉ lk_hd ?_
    refine n_loc D₁₉ (lk_tl (lk_tl lk_hd)) ?_
    have hwl : w.length ≤ 5 := hok.2.1
    refine PyProof.Rows.add_str (fun t₂₀ k₂₀ => ?_) (by rw [txt_len, hcl, sizeLine_eq]; lia)
    rw [(congrArg (txt (cs ++ List.replicate (lst + b) 32) ++ ·) (txt_w w)).trans (txt_app _ _)]
    refine s_loc (D₁₉.tok k₂₀) fun s₂₁ D₂₁ => ?_
    refine x_nil ?_
    have D₂₁ := D₂₁.perm (news' := [(e, isEn it (i + 1)), (it, isIt "list_iterator" (.ref lw) (i + 1)), (fx, isFd W rl (B + 1 + i + 1)), (sl, isL (spv.toArray.push (.int ((cs.length + (lst + b) : Nat) : Int) t₁₈)))]) (.trans (.swap _ _ _) (.cons _ (.swap _ _ _)))
    subst hB₁
    refine ⟨cs ++ List.replicate (lst + b) 32 ++ w.cps.toList, sp ++ [cs.length + (lst + b)], spv ++ [.int ((cs.length + (lst + b) : Nat) : Int) t₁₈], t₂₀, ("text", .str (txt (cs ++ List.replicate (lst + b) 32 ++ w.cps.toList)) t₂₀) :: ("text", .str (txt (cs ++ List.replicate (lst + b) 32)) t₁₆) :: ("least", .int lst tl) :: ("word", .str w tw) :: ("k", .int i ti) :: mI, G', ?_, lk_tl (lk_tl (lk_tl (lk_tl (lk_tl l1)))), lk_tl (lk_tl (lk_tl (lk_tl (lk_tl l2)))), lk_hd, lk_tl (lk_tl (lk_tl (lk_tl (lk_tl l4)))), ?_, ?_, ?_, ?_, g'⟩
    · rw [show (spv ++ [Value.int ((cs.length + (lst + b) : Nat) : Int) t₁₈]).toArray = spv.toArray.push (.int ((cs.length + (lst + b) : Nat) : Int) t₁₈) from by simp]
      exact D₂₁
    · rw [List.map_append]; exact ints_app hI (.cons _ _ .nil)
    · have h1 := hP.step (lst + b) (fun h1 h2 => by rw [hlst h1 h2]; lia) hwa
      rw [show prevW ws (i + 1) = isW w from by show isW (ws.getD i "") = _; rw [List.getD_eq_getElem?_getD, hw]; rfl, List.take_add_one, hw]
      exact h1
    · rw [List.length_append, hcl]
      have : w.cps.toList.length ≤ 5 := by rw [Array.length_toList]; exact hok.2.1
      lia
    · rw [List.length_append]; simp; lia
end
end Mine
end

section
open PySem PySem.W PyProof.Rows PySem.Calls PySem.Spec
set_option autoImplicit false
namespace Mine
theorem warmsi (w : World) (h : Heap) : (hd.heap_39 w.params).In h → PySem.Challenge.rw_rh0003_01.prog = PySem.Challenge.rw_rh0003_01.prog := by
  k_fill
  intro _
  rfl
theorem opOk1 (c : Nat) : opOk ⟨#[c]⟩ = !sepC c := by
  have h : ((⟨#[c]⟩ : Str) != Str.ofString "") = true := by
    simp only [bne_iff_ne, ne_eq]
    intro z
    have h2 : (some c : Option Nat) = (Str.ofString "").cps[0]? := congrArg (fun x : Str => x.cps[0]?) z
    rw [show (Str.ofString "").cps[0]? = none from rfl] at h2
    cases h2
  unfold opOk
  rw [h]
  simp
/-- pairs of a word and its spot in the heap -/
noncomputable def WL (h : Heap) (vals : List Value) (r : List (Str × Nat)) : Prop := vals.length = r.length ∧ ∀ (i : Nat) (w : Str) (sp : Nat), r[i]? = some (w, sp) → ∃ (ta k t t' : Nat), vals[i]? = some (Value.ref ta) ∧ h.get? ta = some (tupOf [.str w t, .int sp t'] k)
theorem WL.mono {h h' : Heap} {vals : List Value} {r : List (Str × Nat)} (x : WL h vals r) (k : h.StaysIn h') : WL h' vals r := ⟨x.1, fun i w sp e => let ⟨a, b, c, d, p, q⟩ := x.2 i w sp e; ⟨a, b, c, d, p, k _ _ q⟩⟩
theorem WL.nil (h : Heap) : WL h [] [] := ⟨rfl, fun i w sp e => by simp at e⟩
theorem WL.snoc {h : Heap} {vals : List Value} {r : List (Str × Nat)} {w : Str} {sp ta k t t' : Nat} (x : WL h vals r) (e : h.get? ta = some (tupOf [.str w t, .int sp t'] k)) : WL h (vals ++ [.ref ta]) (r ++ [(w, sp)]) := by
  refine ⟨by simp [x.1], fun i w2 sp2 h2 => ?_⟩
  rw [List.getElem?_append] at h2
  split at h2
  · refine hideP fun PH1 hPH1 => ?_
    obtain ⟨a, b, c, d, p, q⟩ := x.2 i w2 sp2 h2
    subst hPH1
    exact ⟨a, b, c, d, by rw [List.getElem?_append_left (by rw [x.1]; assumption)]; exact p, q⟩
  · rename_i hi
    have : i - r.length = 0 := by
      have := (List.getElem?_eq_some_iff.mp h2).1
      simpa using this
    rw [this] at h2
    cases h2
    exact ⟨ta, k, t, t', by rw [List.getElem?_append_right (by rw [x.1]; lia), x.1, this]; rfl, e⟩
theorem lx_in {cs : List Nat} {p : Nat} {r2 : List (Str × Nat)} (h : Lx cs p r2) (hp : p < cs.length) : ∃ j, p ≤ j ∧ j ≤ cs.length ∧ (∀ k, p ≤ k → k < j → ∃ c, cs[k]? = some c ∧ sepC c = false) ∧ (∀ c, cs[j]? = some c → sepC c = true) ∧
    ((p < j ∧ ∃ r', r2 = (⟨((cs.drop p).take (j - p)).toArray⟩, p) :: r' ∧ Lx cs j r') ∨ (j = p ∧ ∃ c, cs[p]? = some c ∧ (((c = 40 ∨ c = 41 ∨ c = 58) ∧ ∃ r', r2 = (⟨#[c]⟩, p) :: r' ∧ Lx cs (p + 1) r') ∨ (c = 32 ∧ Lx cs (p + 1) r2)))) := by
  cases h with
  | done h => lia
  | @word _ j r h1 h2 h3 h4 h5 => exact ⟨j, by lia, h2, h3, h4, .inl ⟨h1, r, rfl, h5⟩⟩
  | @sign _ c r h1 h2 h3 =>
    refine ⟨p, Nat.le_refl _, by lia, fun k a b => by lia, fun c' hc => ?_, .inr ⟨rfl, c, h1, .inl ⟨h2, r, rfl, h3⟩⟩⟩
    rw [h1] at hc; cases hc
    rcases h2 with rfl | rfl | rfl <;> decide +kernel
  | blank h1 h3 =>
    refine ⟨p, Nat.le_refl _, by lia, fun k a b => by lia, fun c' hc => ?_, .inr ⟨rfl, 32, h1, .inr ⟨rfl, h3⟩⟩⟩
    rw [h1] at hc; cases hc
    decide +kernel
section
variable {W : Wd} {G : Heap} {L : Addr} {m : List (Str × Value)} {news news' pre post : List (Addr × (Obj → Prop))} {s : Shared} {A : Around} {E : Value → Shared → Prop} {env : Env} {v : Value} {pos : Pos}
  {Q : Value → Shared → Prop} {fx rl : Addr} {fs : List Env} {n B : Nat}
theorem sc_get {value slice : Expr} {y : Str} {i : Nat} {u t : Tok} {c : Nat} (D : Led W G L m news s) (hc : y.cps[i]? = some c) (hz : y.length ≤ 100000) (h : ∀ s' t, Led W G L m news s' → Q (.str ⟨#[c]⟩ t) s')
    (h1 : subscripted slice false (.str y t) (.int i u) = operate [.str y t, .int i u] (getItem (.str y t) (.int i u)) := by with_unfolding_all rfl) (h2 : ∀ r, letTemporaryGo value (.str y t) r = pure () := by intro _; rfl) :
    wpAny (model pw W.w) A (subscriptTail value slice (.str y t) (.int i u)) Q E s := by
  have hi : i < y.length := (Array.getElem?_eq_some_iff.mp hc).1
  refine item_str ?_ (by lia) (by lia) (fun _ => ?_) h1 h2
  · unfold fitsSsize; simp; lia
  · have : Txt.item y (i : Int) = ⟨#[c]⟩ := by
      unfold Txt.item Txt.charAt
      rw [six' hi]
      show (⟨#[(y.cps[i]?).getD 0]⟩ : Str) = _
      rw [hc]
      rfl
    rw [this]
    exact h _ _ (D.tok _)
theorem fmg_signsmax : ∃ t, nsIn (hd.heap_39 W.w.params) mainGlobals "MOST_SIGNS" = some (some (.int 100000 t)) := ⟨_, by k_is⟩
inductive WordsI (W : Wd) (s : Shared) (L fl : Addr) (cs : List Nat) (r : List (Str × Nat)) (tt : Tok) (n' : Nat) (s' : Shared) : Prop
  | mk (p : Nat) (tp : Tok) (vals : List Value) (r1 r2 : List (Str × Nat)) (mI : List (Str × Value)) (G' : Heap) (_ : n' = cs.length - p) (_ : p ≤ cs.length) (_ : r = r1 ++ r2) (_ : Lx cs p r2) (_ : Led W G' L mI [(fl, isL vals.toArray)] s') (_ : lk mI "text" = some (.str (txt cs) tt)) (_ : lk mI "found" = some (.ref fl)) (_ : lk mI "spot" = some (.int p tp)) (_ : WL G' vals r1) (_ : s.heap.StaysIn G') : WordsI W s L fl cs r tt n' s'
inductive WordsJ (W : Wd) (L fl : Addr) (cs : List Nat) (tt : Tok) (p j : Nat) (tp : Tok) (vals : List Value) (G' : Heap) (n' : Nat) (s' : Shared) : Prop
  | mk (q : Nat) (tq : Tok) (m2 : List (Str × Value)) (_ : n' = j - q) (_ : p ≤ q) (_ : q ≤ j) (_ : Led W G' L m2 [(fl, isL vals.toArray)] s') (_ : lk m2 "text" = some (.str (txt cs) tt)) (_ : lk m2 "found" = some (.ref fl)) (_ : lk m2 "spot" = some (.int q tq)) (_ : lk m2 "begin" = some (.int p tp)) : WordsJ W L fl cs tt p j tp vals G' n' s'
theorem c_words {cs : List Nat} {r : List (Str × Nat)} {tt : Tok} (hs : Hs W G s) (c : Cx A fs (n + 3)) (ha : ∀ x ∈ cs, x < 128) (hz : cs.length ≤ 20000) (hx : Lx cs 0 r) (hr : r.length ≤ 20000)
    (k : ∀ s' l vals n', Hs W s.heap s' → s'.heap.get? l = some (lstOf (vals : List Value).toArray n') → s.heap.get? l = none → WL s'.heap vals (r ++ [(("" : Str), cs.length)]) → Q (.ref l) s') :
    wpAny (model pw W.w) A (call (.ref 145) [.str (txt cs) tt]) Q E s := by
  refine enterC [("text", .str (txt cs) tt)] (news := []) hs.all (fun _ h => nomatch h) List.nodup_nil (by k_is) (by k_is) c.room rfl rfl rfl rfl rfl (by decide) fun L s₁ D st hL => ?_
  refine hide fun Qe Ee hQe hEe => ?_
  have hlc : (txt cs).length = cs.length := txt_len cs
  have hcp : ∀ i : Nat, (txt cs).cps[i]? = cs[i]? := fun i => by show cs.toArray[i]? = _; simp
  refine x_if ?_
  refine wpAny_isTrue_Compare1 ?_
  refine lens_call D lk_hd (by lia) fun s₂ t₂ D₂ => ?_
  obtain ⟨tm, hm⟩ := fmg_signsmax (W := W)
  refine n_glb D₂ (mg_some hs.st hm) ?_
  refine gt_int (wpAny_truthy_bool ?_)
  first | refine if_no (show decide ((100000 : Int) < ((txt cs).length : Int)) = false from decide_eq_false (by lia)) ?_ | rw [show decide ((100000 : Int) < ((txt cs).length : Int)) = false from decide_eq_false (by lia), if_neg (by decide)]
  refine x_nil (seq_next ?_)
  refine x_asg2 c.hd ?_
  refine Tuple_ ?_
  refine spliced_more ?_
  refine List_ (spliced_none ?_)
  refine l_new D₂ (by size_fits) fun fl s₃ D₃ => ?_
  refine spliced_more (e_int D₃ fun s₄ t₄ D₄ => ?_)
  refine spliced_none ?_
  refine t_gr D₄ (by size_fits) fun ta s₅ G₅ D₅ g₅ hta => ?_
  refine ⟨G₅, _, _, ta, _, _, 0, rfl, D₅, D₅.at hta, fun s₆ D₆ => ?_⟩
  refine x_whileH (WordsI W s L fl cs r tt) cs.length ?_ ?_
  · exact ⟨0, t₄, [], [], r, [("found", .ref fl), ("spot", .int 0 t₄), ("text", .str (txt cs) tt)], G₅, rfl, Nat.zero_le _, rfl, hx, D₆, lk_tl (lk_tl lk_hd), lk_hd, lk_tl lk_hd, WL.nil _, g₅⟩
  · rintro Q₁ E₁ B₁ T₁ hQ₁ hE₁ hB₁ hT₁ n' s₇ ⟨p, tp, vals, r1, r2, mI, G', rfl, hp, rfl, hL2, D₇, l1, l2, l3, hW, g'⟩
    have hvl : vals.length = r1.length := hW.1
    rw [List.length_append] at hr
    refine wpAny_isTrue_Compare1 ?_
    refine n_loc D₇ l3 ?_
    refine lens_call D₇ l1 (by lia) fun s₈ t₈ D₈ => ?_
    refine lt_int (wpAny_truthy_bool ?_)
    rw [hlc]
    by_cases hpe : p = cs.length
    · first | refine if_no (show decide ((p : Int) < (cs.length : Int)) = false from decide_eq_false (by lia)) ?_ | rw [show decide ((p : Int) < (cs.length : Int)) = false from decide_eq_false (by lia), if_neg (by decide)]
      have hr2 : r2 = [] := by
        cases hL2 with
        | done => rfl
        | word h1 h2 => lia
        | sign h1 => have := (List.getElem?_eq_some_iff.mp h1).1; lia
        | blank h1 => have := (List.getElem?_eq_some_iff.mp h1).1; lia
      subst hr2
      rw [List.append_nil] at k
      refine x_ret ?_
      refine wpAny_BinOp ?_
      refine n_loc D₈ l2 ?_
      refine List_ ?_
      refine spliced_more ?_
      refine Tuple_ ?_
      refine spliced_more (e_str D₈ fun s₉ t₉ D₉ => ?_)
      refine spliced_more ?_
      refine lens_call D₉ l1 (by lia) fun s₁₀ t₁₀ D₁₀ => ?_
      refine spliced_none ?_
      rw [hlc]
      refine t_gr D₁₀ (by size_fits) fun tb s₁₁ G₁₁ D₁₁ g₁₁ htb => ?_
      refine spliced_none ?_
      refine l_new D₁₁ (by size_fits) fun q s₁₂ D₁₂ => ?_
      obtain ⟨n1, h1⟩ := isL_get (D₁₂.nw (fl, isL _) (.tail _ (.head _))).1
      obtain ⟨n2, h2⟩ := isL_get (D₁₂.get (.head _))
      refine l_add D₁₂ h1 h2 (by rw [sizeLine_eq]; simp; lia) fun l5 s₁₃ D₁₃ na5 => ?_
      have gall : s.heap.StaysIn G₁₁ := fun b o e => g₁₁ b o (g' b o e)
      have hn5 : s.heap.get? l5 = none := by
        cases q5 : s.heap.get? l5 with
        | none => rfl
        | some o => have := (D₁₃.nw _ (.head _)).2.2; rw [gall _ _ q5] at this; cases this
      have D₁₄ := D₁₃.lo gall hs.all.top
      obtain ⟨n5, h5⟩ := isL_get (D₁₄.get (.head _))
      subst hQ₁
      subst hQe; refine ret_v (k s₁₃ l5 (vals ++ [.ref tb]) n5 D₁₄.hs (by rw [h5]) hn5 ?_)
      exact ((hW.mono g₁₁).snoc htb).mono D₁₃.hs.keep
    · first | refine if_yes (show decide ((p : Int) < (cs.length : Int)) = true from decide_eq_true (by lia)) ?_ | rw [show decide ((p : Int) < (cs.length : Int)) = true from decide_eq_true (by lia), if_pos rfl]
      refine hideP fun PH2 hPH2 => ?_
      obtain ⟨j, hpj, hjl, hall, hend, hcase⟩ := lx_in hL2 (by lia)
      subst hPH2
      refine x_asg ?_
      refine n_loc D₈ l3 ?_
      refine s_loc D₈ fun s₉ D₉ => ?_
      refine x_whileH (WordsJ W L fl cs tt p j tp vals G') (j - p) ?_ ?_
      · exact ⟨p, tp, ("begin", .int p tp) :: mI, rfl, Nat.le_refl _, hpj, D₉, lk_tl l1, lk_tl l2, lk_tl l3, lk_hd⟩
      · rintro Q₂ E₂ B₂ T₂ hQ₂ hE₂ hB₂ hT₂ n' s₁₀ ⟨q, tq, m2, rfl, hpq, hqj, D₁₀, k1, k2, k3, k4⟩
        refine wpAny_mono (Q := fun b s' => b = decide (q < j) ∧ Led W G' L m2 [(fl, isL vals.toArray)] s') (isTrue_and ?_) (fun b s₁₁ h₁₁ => ?_) fun _ _ z => z
        · refine wpAny_isTrue_Compare1 ?_
          refine n_loc D₁₀ k3 ?_
          refine lens_call D₁₀ k1 (by lia) fun s₁₁ t₁₁ D₁₁ => ?_
          refine lt_int (wpAny_truthy_bool ?_)
          rw [hlc]
          by_cases hql : q = cs.length
          · first | refine if_no (show decide ((q : Int) < (cs.length : Int)) = false from decide_eq_false (by lia)) ?_ | rw [show decide ((q : Int) < (cs.length : Int)) = false from decide_eq_false (by lia), if_neg (by decide)]
            exact ⟨(decide_eq_false (by lia)).symm, D₁₁⟩
          · first | refine if_yes (show decide ((q : Int) < (cs.length : Int)) = true from decide_eq_true (by lia)) ?_ | rw [show decide ((q : Int) < (cs.length : Int)) = true from decide_eq_true (by lia), if_pos rfl]
            obtain ⟨ch, hch, hsep⟩ : ∃ ch, cs[q]? = some ch ∧ sepC ch = !decide (q < j) := by
              by_cases hqj2 : q < j
              · obtain ⟨ch, a, b⟩ := hall q hpq hqj2
                exact ⟨ch, a, by rw [b, decide_eq_true hqj2]; rfl⟩
              · have hqe : q = j := by lia
                subst hqe
                obtain ⟨ch, hch⟩ : ∃ ch, cs[q]? = some ch := ⟨_, List.getElem?_eq_getElem (by lia)⟩
                exact ⟨ch, hch, by rw [hend _ hch, decide_eq_false (by lia)]; rfl⟩
            have hlt := ha ch (List.mem_of_getElem? hch)
            refine isTrue_and ?_
            refine it_call ?_
            refine Call_ ?_
            refine n_glb D₁₁ (mg_some hs.st fmg_isop) ?_
            refine callWith_K D₁₁.hs.X k95 (spliced_more ?_)
            refine Subscript_ ?_
            refine n_loc D₁₁ k1 ?_
            refine n_loc D₁₁ k3 ?_
            refine sc_get D₁₁ ((hcp q).trans hch) (by lia) fun s₁₂ t₁₂ D₁₂ => ?_
            refine spliced_none ⟨D₁₂.hs.X, ?_⟩
            refine c_isop (n := n) D₁₂.hs ((c.deep _).less (by lia)) (by simp [hlt]) (by show 1 ≤ 100000; lia) fun s₁₃ H₁₃ => ?_
            refine wpAny_truthy_bool ?_
            rw [opOk1, hsep, Bool.not_not]
            have D₁₃ := D₁₂.back0 H₁₃
            by_cases hqj2 : q < j
            · rw [decide_eq_true hqj2, if_pos rfl]
              exact isTrue_and_nil ⟨rfl, D₁₃⟩
            · rw [decide_eq_false hqj2, if_neg (by decide)]
              exact ⟨rfl, D₁₃⟩
        obtain ⟨rfl, D₁₁⟩ := h₁₁
        by_cases hqj2 : q < j
        · rw [decide_eq_true hqj2, if_pos rfl]
          refine x_asg ?_
          refine wpAny_BinOp ?_
          refine n_loc D₁₁ k3 ?_
          refine e_int D₁₁ fun s₁₂ t₁₂ D₁₂ => ?_
          refine P.add_int ?_
          refine s_loc (D₁₂.tok _) fun s₁₃ D₁₃ => ?_
          subst hB₂
          refine x_nil ⟨j - (q + 1), by lia, q + 1, _, ("spot", .int ((q : Int) + 1) _) :: m2, rfl, by lia, by lia, D₁₃, lk_tl k1, lk_tl k2, lk_hd, lk_tl k4⟩
        · rw [decide_eq_false hqj2, if_neg (by decide)]
          have hqe : q = j := by lia
          subst hqe
          refine x_if ?_
          refine wpAny_isTrue_Compare1 ?_
          refine n_loc D₁₁ k4 ?_
          refine n_loc D₁₁ k3 ?_
          refine lt_int (wpAny_truthy_bool ?_)
          rcases hcase with ⟨hlt, r', rfl, hL'⟩ | ⟨hqp, ch, hch, hcc⟩
          · first | refine if_yes (show decide ((p : Int) < (q : Int)) = true from decide_eq_true (by lia)) ?_ | rw [show decide ((p : Int) < (q : Int)) = true from decide_eq_true (by lia), if_pos rfl]
            refine x_append (pre := []) D₁₁ k2 ?_
            refine Tuple_ ?_
            refine spliced_more ?_
            refine Subscript_ ?_
            refine n_loc D₁₁ k1 ?_
            refine wpAny_Slice (ep_some ?_)
            refine n_loc D₁₁ k4 ?_
            refine ep_some ?_
            refine n_loc D₁₁ k3 ?_
            refine ep_none ?_
            refine st_slice (l := some (p, tp)) (u := some (q, tq)) (D₁₁.pushed _ rfl) ⟨_, Heap.get?_push_size _ rfl, rfl, rfl⟩ (by rw [hlc, sizeLine_eq]; lia) fun s₁₂ t₁₂ D₁₂ => ?_
            refine spliced_more ?_
            refine n_loc D₁₂ k4 ?_
            refine spliced_none ?_
            refine t_gr D₁₂ (by size_fits) fun tb s₁₃ G₁₃ D₁₃ g₁₃ htb => ?_
            refine ⟨G₁₃, _, [], [], _, D₁₃, by rw [sizeLine_eq]; simp; lia, fun s₁₄ D₁₄ => x_nil (seq_next (x_nil ?_))⟩
            have hsl : Txt.slice (txt cs) (some (p : Int)) (some (q : Int)) = ⟨((cs.drop p).take (q - p)).toArray⟩ := by
              rw [slice_cps (a := p) (b := q) (.inl rfl) (.inl ⟨q, rfl, by show q = min q cs.toArray.size; simp; lia⟩) (by lia) (by show q ≤ cs.toArray.size; simp; lia)]
              rfl
            subst hQ₂ hB₁
            refine ⟨cs.length - q, by lia, q, tq, vals ++ [.ref tb], r1 ++ [(⟨((cs.drop p).take (q - p)).toArray⟩, p)], r', m2, G₁₃, rfl, hjl, by rw [List.append_assoc]; rfl, hL', ?_, k1, k2, k3, ?_, fun b o e => g₁₃ b o (g' b o e)⟩
            · rw [show (vals ++ [Value.ref tb]).toArray = vals.toArray.push (.ref tb) from by simp]
              exact D₁₄
            · refine (hW.mono g₁₃).snoc (t := t₁₂) (t' := tp) (k := 0) ?_
              rw [← hsl]
              exact htb
          · subst hqp
            first | refine if_no (show decide ((q : Int) < (q : Int)) = false from decide_eq_false (by lia)) ?_ | rw [show decide ((q : Int) < (q : Int)) = false from decide_eq_false (by lia), if_neg (by decide)]
            refine x_if ?_
            refine wpAny_isTrue_Compare1 ?_
            refine Subscript_ ?_
            refine n_loc D₁₁ k1 ?_
            refine n_loc D₁₁ k3 ?_
            refine sc_get D₁₁ ((hcp q).trans hch) (by lia) fun s₁₂ t₁₂ D₁₂ => ?_
            refine e_str D₁₂ fun s₁₃ t₁₃ D₁₃ => ?_
            refine PySem.SB.contains ?_
            refine wpAny_truthy_bool ?_
            rcases hcc with ⟨hk, r', rfl, hL'⟩ | ⟨rfl, hL'⟩
            · first | refine if_yes (show Txt.contains (Str.ofString "(),:") ⟨#[ch]⟩ = true from (by rcases hk with rfl | rfl | rfl <;> decide +kernel)) ?_ | rw [show Txt.contains (Str.ofString "(),:") ⟨#[ch]⟩ = true from by rcases hk with rfl | rfl | rfl <;> decide +kernel, if_pos rfl]
              refine x_append (pre := []) D₁₃ k2 ?_
              refine Tuple_ ?_
              refine spliced_more ?_
              refine Subscript_ ?_
              refine n_loc D₁₃ k1 ?_
              refine n_loc D₁₃ k3 ?_
              refine sc_get D₁₃ ((hcp q).trans hch) (by lia) fun s₁₄ t₁₄ D₁₄ => ?_
              refine spliced_more ?_
              refine n_loc D₁₄ k3 ?_
              refine spliced_none ?_
              refine t_gr D₁₄ (by size_fits) fun tb s₁₅ G₁₅ D₁₅ g₁₅ htb => ?_
              refine ⟨G₁₅, _, [], [], _, D₁₅, by rw [sizeLine_eq]; simp; lia, fun s₁₆ D₁₆ => ?_⟩
              refine x_asg ?_
              refine wpAny_BinOp ?_
              refine n_loc D₁₆ k3 ?_
              refine e_int D₁₆ fun s₁₇ t₁₇ D₁₇ => ?_
              refine P.add_int ?_
              refine s_loc (D₁₇.tok _) fun s₁₈ D₁₈ => ?_
              refine x_nil (seq_next (x_nil (seq_next (x_nil ?_))))
              subst hQ₂ hB₁
              refine ⟨cs.length - (q + 1), by lia, q + 1, s₁₇.toks, vals ++ [.ref tb], r1 ++ [(⟨#[ch]⟩, q)], r', ("spot", .int ((q : Int) + 1) s₁₇.toks) :: m2, G₁₅, rfl, by lia, by rw [List.append_assoc]; rfl, hL', ?_, lk_tl k1, lk_tl k2, lk_hd, (hW.mono g₁₅).snoc htb, fun b o e => g₁₅ b o (g' b o e)⟩
              rw [show (vals ++ [Value.ref tb]).toArray = vals.toArray.push (.ref tb) from by simp]
              exact D₁₈
            · first | refine if_no (show Txt.contains (Str.ofString "(),:") ⟨#[32]⟩ = false from (by decide +kernel)) ?_ | rw [show Txt.contains (Str.ofString "(),:") ⟨#[32]⟩ = false from by decide +kernel, if_neg (by decide)]
              refine x_if ?_
              refine it_call ?_
              refine MethodCall_ ?_
              refine Subscript_ ?_
              refine n_loc D₁₃ k1 ?_
              refine n_loc D₁₃ k3 ?_
              refine sc_get D₁₃ ((hcp q).trans hch) (by lia) fun s₁₄ t₁₄ D₁₄ => ?_
              refine PySem.GM.isspace (kb ⟨_, rfl⟩ (PySem.SC.isspace (wpAny_truthy_bool ?_)))
              first | refine if_yes (show Txt.isspace ⟨#[32]⟩ = true from (by decide +kernel)) ?_ | rw [show Txt.isspace ⟨#[32]⟩ = true from by decide +kernel, if_pos rfl]
              refine x_asg ?_
              refine wpAny_BinOp ?_
              refine n_loc D₁₄ k3 ?_
              refine e_int D₁₄ fun s₁₇ t₁₇ D₁₇ => ?_
              refine P.add_int ?_
              refine s_loc (D₁₇.tok _) fun s₁₈ D₁₈ => ?_
              refine x_nil (seq_next (x_nil (seq_next (x_nil (seq_next (x_nil ?_))))))
              subst hQ₂ hB₁
              exact ⟨cs.length - (q + 1), by lia, q + 1, _, vals, r1, r2, ("spot", .int ((q : Int) + 1) _) :: m2, G', rfl, by lia, rfl, hL', D₁₈, lk_tl k1, lk_tl k2, lk_hd, hW, g'⟩
end
end Mine
end

section
open PySem PySem.W PyProof.Rows PySem.Calls PySem.Spec
set_option autoImplicit false
namespace Mine
theorem warmsj (w : World) (h : Heap) : (hd.heap_39 w.params).In h → PySem.Challenge.rw_rh0003_01.prog = PySem.Challenge.rw_rh0003_01.prog := by
  k_fill
  intro _
  rfl
section
variable {W : Wd} {G : Heap} {L : Addr} {m : List (Str × Value)} {news news' pre post : List (Addr × (Obj → Prop))} {s : Shared} {A : Around} {E : Value → Shared → Prop} {env : Env} {v : Value} {pos : Pos}
  {Q : Value → Shared → Prop} {fs : List Env} {n B : Nat} {x dx : Addr}
theorem tupG {a : Addr} {vs : List Value} {k : Nat} (D : Led W G L m news s) (hn : ∀ p ∈ news, ∀ o, p.2 o → notTup o) (e : s.heap.get? a = some (tupOf vs k)) : (hid s.heap (L :: news.map (·.1))).get? a = some (tupOf vs k) := by
  refine hid_get e fun hm => ?_
  rcases List.mem_cons.mp hm with rfl | hm
  · obtain ⟨m₀, ⟨o, es, ep, ho, hd, _⟩, _⟩ := D.ns
    rw [ho] at e; cases e; cases hd
  · obtain ⟨p, hp, rfl⟩ := List.mem_map.mp hm
    obtain ⟨o, ho, hP⟩ := D.get hp
    rw [ho] at e; cases e
    exact hn p hp _ hP _ _ rfl
theorem WL.gr {vals : List Value} {r : List (Str × Nat)} (D : Led W G L m news s) (hn : ∀ p ∈ news, ∀ o, p.2 o → notTup o) (x : WL s.heap vals r) : WL (hid s.heap (L :: news.map (·.1))) vals r :=
  ⟨x.1, fun i w sp e => let ⟨a, b, c, d, p, q⟩ := x.2 i w sp e; ⟨a, b, c, d, p, tupG D hn q⟩⟩
theorem i_setE {name : Str} {Q : Unit → Shared → Prop} {es : List DictEntry} {k : Nat} (D : Led W G L m [(dx, (· = dictOf es k))] s) (hx : G.get? x = some (instObj 258 dx)) (ht : takerIn (hd.heap_39 W.w.params) 258 name = some none) (hl : (getL name es).isSome = true)
    (hz : es.length ≤ 4) (hz2 : ∀ t, (putL name (PyData.keyHash W.w.params name) (.str name t) v es).length ≤ es.length + 1)
    (h : ∀ s' t, Led W G L m [(dx, (· = dictOf (putL name (PyData.keyHash W.w.params name) (.str name t) v es) (putN name es k)))] s' → Q () s') : wpAny (model pw W.w) A (setAttr (.ref x) name v) Q E s := by
  obtain ⟨_, hdx, rfl⟩ := D.get (.head _)
  refine i_set D.hs.X (D.at hx) hdx rsa rover ht rhas hl (Nat.le_trans (hz2 _) (by lia)) fun h' k' e => h _ _ (D.chg (pre := []) (s' := { s with heap := h', toks := s.toks + 2 }) k' ⟨_, e, rfl⟩)
theorem rt_words : takerIn (hd.heap_39 W.w.params) 258 "words" = some none := by k_is
theorem rt_most : takerIn (hd.heap_39 W.w.params) 258 "most" = some none := by k_is
theorem fmg_words : nsIn (hd.heap_39 W.w.params) mainGlobals "words_of" = some (some (.ref 145)) := by k_is
theorem k145 : keepIn (hd.heap_39 W.w.params) (.ref 145) = true := by k_is
theorem fmg_depth : ∃ t, nsIn (hd.heap_39 W.w.params) mainGlobals "MOST_DEPTH" = some (some (.int 40 t)) := ⟨_, by k_is⟩
theorem mk258 : makesIn (hd.heap_39 W.w.params) 258 = true := by k_is
theorem fi258 : findIn (hd.heap_39 W.w.params) (.ref 258) "__init__" = some (some (.ref 159)) := by k_is
theorem ti159 : typeIn (hd.heap_39 W.w.params) (.ref 159) = some (.type "function") := by k_is
theorem fr_tc (C : Addr) (rest : List Value) (fr : Option (List Env)) : pushEnvs (Code.builtin "type.__call__" ⟨.ref C :: rest, []⟩).envs fr = fr := by
  have : (Code.builtin "type.__call__" ⟨.ref C :: rest, []⟩).envs = [] := by rfl
  rw [this]
  cases fr <;> rfl
theorem un_tc (C : Addr) (rest : List Value) : (Code.builtin "type.__call__" ⟨.ref C :: rest, []⟩).cUnits ≤ 8 := by
  exact Nat.le_of_ble_eq_true (by kernel_rfl)
theorem Cx.tc {C : Addr} {rest : List Value} (c : Cx A fs (n + 1)) : Cx (A.under (.builtin "type.__call__" ⟨.ref C :: rest, []⟩)) fs n :=
  ⟨by have := c.dep; show A.depth + _ + n ≤ _; rw [weight_tc]; lia, by have := c.un; have := un_tc C rest; show A.units + _ + 8 * n ≤ _; lia, c.hd, (show (A.under (.builtin "type.__call__" ⟨.ref C :: rest, []⟩)).frames = pushEnvs (Code.builtin "type.__call__" ⟨.ref C :: rest, []⟩).envs A.frames from rfl).trans ((fr_tc C rest A.frames).trans c.fr)⟩
theorem c_reader {cs : List Nat} {r0 : List (Str × Nat)} {tt : Tok} (hs : Hs W G s) (c : Cx A fs (n + 6)) (ha : ∀ x ∈ cs, x < 128) (hz : cs.length ≤ 20000) (hx : Lx cs 0 r0) (hr : r0.length ≤ 20000)
    (k : ∀ s' x dx (r : RK) vals n', Hs W s.heap s' → s.heap.get? x = none → s.heap.get? dx = none → s.heap.get? r.lw = none → x ≠ dx → r.lw ≠ dx → s'.heap.get? x = some (instObj 258 dx) → (∃ o, s'.heap.get? dx = some o ∧ isR r 0 0 o) →
      s'.heap.get? r.lw = some (lstOf (vals : List Value).toArray n') → WL s'.heap vals (r0 ++ [(("" : Str), cs.length)]) → Q (.ref x) s') :
    wpAny (model pw W.w) A (call (.ref 258) [.str (txt cs) tt]) Q E s := by
  refine wpAny_call ?_
  refine hideP fun PH1 hPH1 => ?_
  obtain ⟨hh, g, d, t, os⟩ := s
  subst hPH1
  refine make_core (makes_of hs.X mk258) (looks_findIn hs.X fi258) (fun self => bind_fn hs.X self ti159) (.inl rfl) ?_
  have n0 : hh.get? hh.objs.size = none := Heap.get?_none_of_le (Nat.le_refl _)
  have n1 : hh.get? (hh.objs.size + 1) = none := Heap.get?_none_of_le (Nat.le_succ _)
  have kk : ∀ b o, hh.get? b = some o → ((hh.push emptyDict).push (instObj 258 hh.objs.size)).get? b = some o := fun b o e => Heap.get?_push_of_some _ (Heap.get?_push_of_some _ e)
  have hdx : ((hh.push emptyDict).push (instObj 258 hh.objs.size)).get? hh.objs.size = some emptyDict := Heap.get?_push_of_some _ (Heap.get?_push_size _ rfl)
  have hxx : ((hh.push emptyDict).push (instObj 258 hh.objs.size)).get? (hh.objs.size + 1) = some (instObj 258 hh.objs.size) := by
    have : ((hh.push emptyDict).push (instObj 258 hh.objs.size)).get? (hh.push emptyDict).objs.size = some (instObj 258 hh.objs.size) := Heap.get?_push_size _ rfl
    rw [Heap.size_push] at this
    exact this
  have nx : hh.objs.size + 1 ≠ hh.objs.size := Nat.succ_ne_self _
  obtain ⟨x, hx1⟩ : ∃ x, hh.objs.size + 1 = x := ⟨_, rfl⟩
  rw [hx1] at n1 hxx nx ⊢
  obtain ⟨dx, hdx1⟩ : ∃ x, hh.objs.size = x := ⟨_, rfl⟩
  rw [hdx1] at n0 kk hdx hxx nx ⊢
  obtain ⟨h₁, hh1⟩ : ∃ x, ((hh.push emptyDict).push (instObj 258 dx)) = x := ⟨_, rfl⟩
  rw [hh1] at kk hdx hxx ⊢
  clear hx1 hdx1 hh1
  have H₁ : Hs W hh ⟨h₁, g, d, t, os⟩ := (hs.all).to kk
  have H₂ : Hs W (hid h₁ [dx]) ⟨h₁, g, d, t, os⟩ := H₁.up (fun b o e => hid_get (kk b o e) fun z => by rw [List.mem_singleton.mp z, n0] at e; cases e) hid_in
  have gh : hh.StaysIn (hid h₁ [dx]) := fun b o e => hid_get (kk b o e) fun z => by rw [List.mem_singleton.mp z, n0] at e; cases e
  refine enter [("self", .ref x), ("text", .str (txt cs) tt)] (news := [(dx, (· = dictOf [] 0))]) H₂ (fun q hq => by rw [List.mem_singleton.mp hq]; exact ⟨⟨_, hdx, rfl⟩, hid_none (.head _)⟩) (by simp) (by k_is) (by k_is) (c.tc.room) rfl rfl rfl rfl rfl (by decide) fun L s₁ D st hL => ?_
  have cc := (c.tc (C := 258) (rest := [.str (txt cs) tt])).deep
  have hxG : (hid h₁ [dx]).get? x = some (instObj 258 dx) := hid_get hxx (by simpa using nx)
  refine x_asgA ?_
  refine Call_ ?_
  refine n_glb D (mg_some hs.st fmg_words) ?_
  refine callWith_K D.hs.X k145 (spliced_more ?_)
  refine n_loc D lk_hd ?_
  refine spliced_none ⟨D.hs.X, ?_⟩
  refine c_words (n := n) D.hs ((cc _).less (by lia)) ha hz hx hr fun s₂ l vals n' H₂ hl hln hW => ?_
  have D₂ := D.back0 H₂
  have nt : ∀ p ∈ [(dx, (· = dictOf [] 0))], ∀ o, p.2 o → notTup o := fun p hp o ho => by
    rw [List.mem_singleton.mp hp] at ho
    intro vs n q
    rw [show o = _ from ho] at q
    exact absurd (congrArg Obj.cls q) (show (Value.type "dict" : Value) ≠ .type "tuple" from by decide)
  have hlG : (hid s₂.heap (L :: [dx])).get? l = some (lstOf vals.toArray n') := hid_get hl fun hm => by
    rcases List.mem_cons.mp hm with rfl | hm
    · obtain ⟨m₀, ⟨o, es, ep, ho, _⟩, _⟩ := D.ns
      rw [ho] at hln; cases hln
    · rw [List.mem_singleton.mp hm] at hln
      obtain ⟨o, ho, _⟩ := D.get (.head _)
      rw [ho] at hln; cases hln
  have hWG := hW.gr D₂ nt
  obtain ⟨D₃, g₃⟩ := D₂.anew
  have hxG₃ := g₃ _ _ hxG
  refine n_loc D₃ (lk_tl lk_hd) ?_
  refine i_setE D₃ hxG₃ rt_words rfl (Nat.zero_le _) (fun t => Nat.le_refl _) fun s₄ t₄ D₄ => ?_
  refine x_asgA ?_
  refine e_int D₄ fun s₅ t₅ D₅ => ?_
  refine n_loc D₅ (lk_tl lk_hd) ?_
  refine i_setE D₅ hxG₃ rt_place rfl (Nat.le_of_ble_eq_true rfl) (fun t => Nat.le_refl _) fun s₆ t₆ D₆ => ?_
  refine x_asgA ?_
  refine e_int D₆ fun s₇ t₇ D₇ => ?_
  refine n_loc D₇ (lk_tl lk_hd) ?_
  refine i_setE D₇ hxG₃ rt_deep rfl (Nat.le_of_ble_eq_true rfl) (fun t => Nat.le_refl _) fun s₈ t₈ D₈ => ?_
  refine x_asgA ?_
  obtain ⟨tm, hm⟩ := fmg_depth (W := W)
  refine n_glb D₈ (mg_some hs.st hm) ?_
  refine n_loc D₈ (lk_tl lk_hd) ?_
  refine i_setE D₈ hxG₃ rt_most rfl (Nat.le_of_ble_eq_true rfl) (fun t => Nat.le_refl _) fun s₉ t₉ D₉ => ?_
  refine x_nil ?_
  refine ⟨rfl, ?_⟩
  have hall : hh.StaysIn (hid s₂.heap (L :: [(dx, (· = dictOf [] 0))].map (·.1))) := fun b o e => g₃ b o (gh b o e)
  obtain ⟨_, h9, rfl⟩ := D₉.get (.head _)
  obtain ⟨r, h9r, rfl⟩ : ∃ r : RK, s₉.heap.get? dx = some (r.dict (.int ((0 : Nat) : Int) t₅) (.int ((0 : Nat) : Int) t₇)) ∧ r.lw = l := ⟨⟨_, _, _, _, _, _, _, _, l, tm, _⟩, h9, rfl⟩
  refine k s₉ x dx r vals n' (D₉.hs.lo hall hs.all.top) n1 n0 ?_ nx ?_ (D₉.at hxG₃) ⟨_, h9r, t₅, t₇, rfl⟩ (D₉.at hlG) (hWG.mono D₉.hs.keep)
  · cases q : hh.get? r.lw with
    | none => rfl
    | some o => rw [st _ _ (kk _ _ q)] at hln; cases hln
  · rintro rfl
    rw [st _ _ hdx] at hln; cases hln
end
end Mine
end

section
open PySem PySem.W PyProof.Rows PySem.Calls PySem.Spec
set_option autoImplicit false
namespace Mine
noncomputable def loops : List Str := ["terms", "papers", "places"]
noncomputable def nextL : List (Str × List Str) := [("same", [")", "term"]), ("told", [")", "word"]), ("rule", ["places", "word"]), ("turn", [")", "paper"]), ("join", ["papers", "paper", "paper"]), ("under", ["papers", "word"])]
noncomputable def nextOf (w : Str) : Option (List Str) := (nextL.find? fun kv => kv.1 = w).map (·.2)
inductive Act
  | more (p : List Str)
  | go (p ns : List Str)
  | bad
noncomputable def anyS (l : List Str) (x : Str) : Bool := l.any fun y => y == x
noncomputable def chop (want : Str) : Str := if want = "places" then "name" else if want = "terms" then "term" else "paper"
noncomputable def act (word want : Str) (ns : List Str) : Act :=
  if (anyS loops want && word != ")") = true then .more [want, chop want]
  else if (want == "term" && word == "(") = true then .go ["terms", "term", "word"] ns
  else if (want == "paper" && word == "(") = true then .go ["kind"] ns
  else if (want == "kind" && (nextOf word).isSome) = true then .go ((nextOf word).getD []) []
  else if (want == "name" && isVar word && !anyS ns word) = true then .go ["term"] (ns ++ [word])
  else if (!((anyS ["term", "word"] want && isW word) || anyS [")", "terms", "papers", "places"] want) || (want == ")" && word != ")")) = true then .bad
  else .go [] ns
inductive GN (ws : List (Str × Int)) : Nat → Nat → List Str → List Str → Nat → Bool → Prop
  | done {i : Nat} {ns : List Str} : GN ws 0 i [] ns i true
  | more {k i m : Nat} {b : Bool} {st p ns : List Str} {want : Str} : act (nw ws i) want ns = .more p → GN ws k i (st ++ p) ns m b → GN ws (k + 1) i (st ++ [want]) ns m b
  | go {k i m : Nat} {b : Bool} {st p ns ns' : List Str} {want : Str} : act (nw ws i) want ns = .go p ns' → GN ws k (i + 1) (st ++ p) ns' m b → GN ws (k + 1) i (st ++ [want]) ns m b
  | bad {k i : Nat} {st ns : List Str} {want : Str} : act (nw ws i) want ns = .bad → GN ws (k + 1) i (st ++ [want]) ns i false
theorem GN_nil {ws : List (Str × Int)} {k i m : Nat} {b : Bool} {ns : List Str} (h : GN ws k i [] ns m b) : i = m ∧ b = true := by
  generalize hS : ([] : List Str) = S at h
  induction h using GN.casesOn with
  | done => exact ⟨rfl, rfl⟩
  | more => simp at hS
  | go => simp at hS
  | bad => simp at hS
theorem GN_in {ws : List (Str × Int)} {k i m : Nat} {b : Bool} {st ns : List Str} {want : Str} (h : GN ws k i (st ++ [want]) ns m b) : ∃ k', k = k' + 1 ∧
    ((∃ p, act (nw ws i) want ns = .more p ∧ GN ws k' i (st ++ p) ns m b) ∨ (∃ p ns', act (nw ws i) want ns = .go p ns' ∧ GN ws k' (i + 1) (st ++ p) ns' m b) ∨ (act (nw ws i) want ns = .bad ∧ m = i ∧ b = false)) := by
  generalize hS : st ++ [want] = S at h
  induction h using GN.casesOn with
  | done => simp at hS
  | @more k _ _ _ st' p _ want' h1 h2 => obtain ⟨rfl, e⟩ := List.append_inj' hS rfl; cases e; exact ⟨_, rfl, .inl ⟨_, h1, h2⟩⟩
  | @go k _ _ _ st' p _ ns' want' h1 h2 => obtain ⟨rfl, e⟩ := List.append_inj' hS rfl; cases e; exact ⟨_, rfl, .inr (.inl ⟨_, _, h1, h2⟩)⟩
  | @bad k _ st' _ want' h1 => obtain ⟨rfl, e⟩ := List.append_inj' hS rfl; cases e; exact ⟨_, rfl, .inr (.inr ⟨h1, rfl, rfl⟩)⟩
noncomputable def wants : List Str := ["paper", "kind", "term", "terms", "papers", "places", "name", "word", ")"]
theorem chop_loop : ∀ w ∈ loops, chop w ∈ wants ∧ w ∈ wants := by decide +kernel
theorem next_wants : ∀ kv ∈ nextL, ∀ x ∈ kv.2, x ∈ wants := by decide +kernel
theorem next_len : ∀ kv ∈ nextL, kv.2.length ≤ 3 := by decide +kernel
theorem nextOf_mem {w : Str} {l : List Str} (h : nextOf w = some l) : (w, l) ∈ nextL := by
  unfold nextOf at h
  obtain ⟨kv, h1, h2⟩ := Option.map_eq_some_iff.mp h
  have h3 := List.find?_some h1
  have h4 := List.mem_of_find?_eq_some h1
  obtain ⟨a, b⟩ := kv
  simp only [decide_eq_true_eq] at h3
  subst h3; subst h2
  exact h4
theorem anyS_mem {l : List Str} {x : Str} : anyS l x = true ↔ x ∈ l := by
  unfold anyS
  rw [List.any_eq_true]
  constructor
  · rintro ⟨y, h1, h2⟩; rw [beq_iff_eq] at h2; subst h2; exact h1
  · intro h; exact ⟨x, h, by simp⟩
section acts
variable {w want : Str} {ns : List Str}
theorem act1  (h1 : (anyS loops want && w != (")" : Str)) = true) : act w want ns = .more [want, chop want] := if_pos h1
theorem act2 (h1 : (anyS loops want && w != (")" : Str)) = false) (h2 : (want == ("term" : Str) && w == ("(" : Str)) = true) : act w want ns = .go ["terms", "term", "word"] ns := (if_neg (ne_true_of_eq_false h1)).trans (if_pos h2)
theorem act3 (h1 : (anyS loops want && w != (")" : Str)) = false) (h2 : (want == ("term" : Str) && w == ("(" : Str)) = false) (h3 : (want == ("paper" : Str) && w == ("(" : Str)) = true) : act w want ns = .go ["kind"] ns := (if_neg (ne_true_of_eq_false h1)).trans ((if_neg (ne_true_of_eq_false h2)).trans (if_pos h3))
theorem act4g (h1 : (anyS loops want && w != (")" : Str)) = false) (h2 : (want == ("term" : Str) && w == ("(" : Str)) = false) (h3 : (want == ("paper" : Str) && w == ("(" : Str)) = false) (h4 : (want == ("kind" : Str) && (nextOf w).isSome) = true) : act w want ns = .go ((nextOf w).getD []) [] := (if_neg (ne_true_of_eq_false h1)).trans ((if_neg (ne_true_of_eq_false h2)).trans ((if_neg (ne_true_of_eq_false h3)).trans (if_pos h4)))
theorem act5 (h1 : (anyS loops want && w != (")" : Str)) = false) (h2 : (want == ("term" : Str) && w == ("(" : Str)) = false) (h3 : (want == ("paper" : Str) && w == ("(" : Str)) = false) (h4 : (want == ("kind" : Str) && (nextOf w).isSome) = false) (h5 : (want == ("name" : Str) && isVar w && !anyS ns w) = true) : act w want ns = .go ["term"] (ns ++ [w]) := (if_neg (ne_true_of_eq_false h1)).trans ((if_neg (ne_true_of_eq_false h2)).trans ((if_neg (ne_true_of_eq_false h3)).trans ((if_neg (ne_true_of_eq_false h4)).trans (if_pos h5))))
theorem act6 (h1 : (anyS loops want && w != (")" : Str)) = false) (h2 : (want == ("term" : Str) && w == ("(" : Str)) = false) (h3 : (want == ("paper" : Str) && w == ("(" : Str)) = false) (h4 : (want == ("kind" : Str) && (nextOf w).isSome) = false) (h5 : (want == ("name" : Str) && isVar w && !anyS ns w) = false) (h6 : (!((anyS ["term", "word"] want && isW w) || anyS [")", "terms", "papers", "places"] want) || (want == (")" : Str) && w != (")" : Str))) = true) : act w want ns = .bad := (if_neg (ne_true_of_eq_false h1)).trans ((if_neg (ne_true_of_eq_false h2)).trans ((if_neg (ne_true_of_eq_false h3)).trans ((if_neg (ne_true_of_eq_false h4)).trans ((if_neg (ne_true_of_eq_false h5)).trans (if_pos h6)))))
theorem act7 (h1 : (anyS loops want && w != (")" : Str)) = false) (h2 : (want == ("term" : Str) && w == ("(" : Str)) = false) (h3 : (want == ("paper" : Str) && w == ("(" : Str)) = false) (h4 : (want == ("kind" : Str) && (nextOf w).isSome) = false) (h5 : (want == ("name" : Str) && isVar w && !anyS ns w) = false) (h6 : (!((anyS ["term", "word"] want && isW w) || anyS [")", "terms", "papers", "places"] want) || (want == (")" : Str) && w != (")" : Str))) = false) : act w want ns = .go [] ns := (if_neg (ne_true_of_eq_false h1)).trans ((if_neg (ne_true_of_eq_false h2)).trans ((if_neg (ne_true_of_eq_false h3)).trans ((if_neg (ne_true_of_eq_false h4)).trans ((if_neg (ne_true_of_eq_false h5)).trans (if_neg (ne_true_of_eq_false h6))))))
theorem act4 {ln : List Str} (h1 : (anyS loops want && w != (")" : Str)) = false) (h2 : (want == ("term" : Str) && w == ("(" : Str)) = false) (h3 : (want == ("paper" : Str) && w == ("(" : Str)) = false) (h4 : (want == ("kind" : Str) && (nextOf w).isSome) = true) (hl : nextOf w = some ln) : act w want ns = .go ln [] := (act4g h1 h2 h3 h4).trans (by rw [hl]; rfl)
end acts
theorem act_e (want : Str) (h1 : (anyS loops want && (Str.ofString "") != (")" : Str)) = false) (h6 : (!((anyS ["term", "word"] want && isW (Str.ofString "")) || anyS [")", "terms", "papers", "places"] want) || (want == (")" : Str) && (Str.ofString "") != (")" : Str))) = false) : False := by
  rw [show isW (Str.ofString "") = false from by decide +kernel, show (Str.ofString "" != Str.ofString ")") = true from by decide +kernel] at h6
  rw [show (Str.ofString "" != Str.ofString ")") = true from by decide +kernel] at h1
  rw [Bool.and_true] at h1
  have h7 : anyS loops want = false := h1
  rw [Bool.and_false, Bool.false_or, Bool.and_true] at h6
  have h8 := h6
  rw [Bool.or_eq_false_iff] at h8
  have h9 : want ∈ ([")", "terms", "papers", "places"] : List Str) := anyS_mem.mp (by simpa using h8.1)
  simp only [List.mem_cons, List.not_mem_nil, or_false] at h9
  rcases h9 with rfl | rfl | rfl | rfl
  · exact absurd h8.2 (by decide +kernel)
  all_goals exact absurd h7 (by decide +kernel)
theorem act_go {word want : Str} {ns p ns' : List Str} (h : act word want ns = .go p ns') : (∀ x ∈ p, x ∈ wants) ∧ p.length ≤ 3 ∧ word ≠ "" ∧ ns'.length ≤ ns.length + 1 := by
  cases h1 : (anyS loops want && word != (")" : Str)) with
  | true => cases (act1 h1).symm.trans h
  | false =>
  cases h2 : (want == ("term" : Str) && word == ("(" : Str)) with
  | true =>
    cases (act2 h1 h2).symm.trans h
    rw [Bool.and_eq_true] at h2
    exact ⟨by decide +kernel, by decide, fun z => by rw [z] at h2; exact absurd h2.2 (by decide +kernel), Nat.le_succ _⟩
  | false =>
  cases h3 : (want == ("paper" : Str) && word == ("(" : Str)) with
  | true =>
    cases (act3 h1 h2 h3).symm.trans h
    rw [Bool.and_eq_true] at h3
    exact ⟨by decide +kernel, by decide, fun z => by rw [z] at h3; exact absurd h3.2 (by decide +kernel), Nat.le_succ _⟩
  | false =>
  cases h4 : (want == ("kind" : Str) && (nextOf word).isSome) with
  | true =>
    have h4' := h4
    rw [Bool.and_eq_true] at h4'
    obtain ⟨l, hl⟩ := Option.isSome_iff_exists.mp h4'.2
    have hm := nextOf_mem hl
    cases (act4 h1 h2 h3 h4 hl).symm.trans h
    exact ⟨fun x hx => next_wants _ hm x hx, next_len _ hm, (fun z => by rw [z, show nextOf (Str.ofString "") = none from by decide +kernel] at hl; cases hl), Nat.zero_le _⟩
  | false =>
  cases h5 : (want == ("name" : Str) && isVar word && !anyS ns word) with
  | true =>
    cases (act5 h1 h2 h3 h4 h5).symm.trans h
    rw [Bool.and_eq_true, Bool.and_eq_true] at h5
    exact ⟨by decide +kernel, by decide, fun z => by rw [z] at h5; exact absurd h5.1.2 (by decide +kernel), by simp⟩
  | false =>
  cases h6 : (!((anyS ["term", "word"] want && isW word) || anyS [")", "terms", "papers", "places"] want) || (want == (")" : Str) && word != (")" : Str))) with
  | true => cases (act6 h1 h2 h3 h4 h5 h6).symm.trans h
  | false =>
    cases (act7 h1 h2 h3 h4 h5 h6).symm.trans h
    refine ⟨fun _ h => (nomatch h), Nat.zero_le _, fun z => ?_, Nat.le_succ _⟩
    subst z
    exact act_e want h1 h6
end Mine
end

section
open PySem PySem.W PyProof.Rows PySem.Calls PySem.Spec
set_option autoImplicit false
namespace Mine
theorem warmsk (w : World) (h : Heap) : (hd.heap_39 w.params).In h → PySem.Challenge.rw_rh0003_01.prog = PySem.Challenge.rw_rh0003_01.prog := by
  k_fill
  intro _
  rfl
section
variable {W : Wd} {G : Heap} {L : Addr} {m : List (Str × Value)} {news news' pre post : List (Addr × (Obj → Prop))} {s : Shared} {A : Around} {E : Value → Shared → Prop} {env : Env} {v : Value} {pos : Pos}
  {Q : Value → Shared → Prop} {fs : List Env} {n B : Nat} {l : Addr}
noncomputable def nkv : List (Str × Value) := [("same", .ref 266), ("told", .ref 267), ("rule", .ref 268), ("turn", .ref 269), ("join", .ref 270), ("under", .ref 271)]
theorem h265 : ∃ (o : Obj), (hd.heap_39 W.w.params).lookup 265 = some o ∧ isD W nkv o := by
  refine obj_of (a := 265) (K := hd.heap_39 W.w.params) (o := ⟨_, _, .dict _ _, _⟩) (by k_is) fun e => ?_
  refine ⟨_, e, _, _, ⟨rfl, rfl, rfl⟩, rfl, ?_, ?_, by decide⟩
  · intro q hq
    simp only [List.mem_toArray, List.mem_cons, List.not_mem_nil, or_false] at hq
    rcases hq with rfl | rfl | rfl | rfl | rfl | rfl <;> exact ⟨_, key_str, rfl⟩
  · exact .cons key_str rfl (.cons key_str rfl (.cons key_str rfl (.cons key_str rfl (.cons key_str rfl (.cons key_str rfl .nil)))))
theorem h266 : ∃ (vs : List Value) (k : Nat), StrsAre vs [")", "term"] ∧ (hd.heap_39 W.w.params).lookup 266 = some (lstOf vs.toArray k) := by
  refine obj_of (a := 266) (K := hd.heap_39 W.w.params) (o := ⟨_, _, .seq _ _, _⟩) (by k_is) fun e => ?_
  exact ⟨_, _, .cons _ _ (.cons _ _ .nil), e⟩
theorem h267 : ∃ (vs : List Value) (k : Nat), StrsAre vs [")", "word"] ∧ (hd.heap_39 W.w.params).lookup 267 = some (lstOf vs.toArray k) := by
  refine obj_of (a := 267) (K := hd.heap_39 W.w.params) (o := ⟨_, _, .seq _ _, _⟩) (by k_is) fun e => ?_
  exact ⟨_, _, .cons _ _ (.cons _ _ .nil), e⟩
theorem h268 : ∃ (vs : List Value) (k : Nat), StrsAre vs ["places", "word"] ∧ (hd.heap_39 W.w.params).lookup 268 = some (lstOf vs.toArray k) := by
  refine obj_of (a := 268) (K := hd.heap_39 W.w.params) (o := ⟨_, _, .seq _ _, _⟩) (by k_is) fun e => ?_
  exact ⟨_, _, .cons _ _ (.cons _ _ .nil), e⟩
theorem h269 : ∃ (vs : List Value) (k : Nat), StrsAre vs [")", "paper"] ∧ (hd.heap_39 W.w.params).lookup 269 = some (lstOf vs.toArray k) := by
  refine obj_of (a := 269) (K := hd.heap_39 W.w.params) (o := ⟨_, _, .seq _ _, _⟩) (by k_is) fun e => ?_
  exact ⟨_, _, .cons _ _ (.cons _ _ .nil), e⟩
theorem h270 : ∃ (vs : List Value) (k : Nat), StrsAre vs ["papers", "paper", "paper"] ∧ (hd.heap_39 W.w.params).lookup 270 = some (lstOf vs.toArray k) := by
  refine obj_of (a := 270) (K := hd.heap_39 W.w.params) (o := ⟨_, _, .seq _ _, _⟩) (by k_is) fun e => ?_
  exact ⟨_, _, .cons _ _ (.cons _ _ (.cons _ _ .nil)), e⟩
theorem h271 : ∃ (vs : List Value) (k : Nat), StrsAre vs ["papers", "word"] ∧ (hd.heap_39 W.w.params).lookup 271 = some (lstOf vs.toArray k) := by
  refine obj_of (a := 271) (K := hd.heap_39 W.w.params) (o := ⟨_, _, .seq _ _, _⟩) (by k_is) fun e => ?_
  exact ⟨_, _, .cons _ _ (.cons _ _ .nil), e⟩
theorem next_at {w : Str} {l : List Str} (h : nextOf w = some l) : ∃ (a : Addr) (vs : List Value) (k : Nat), valueAt nkv w = some (.ref a) ∧ StrsAre vs l ∧ (hd.heap_39 W.w.params).lookup a = some (lstOf vs.toArray k) := by
  have hm := nextOf_mem h
  simp only [nextL, List.mem_cons, List.not_mem_nil, or_false, Prod.mk.injEq] at hm
  rcases hm with ⟨rfl, rfl⟩ | ⟨rfl, rfl⟩ | ⟨rfl, rfl⟩ | ⟨rfl, rfl⟩ | ⟨rfl, rfl⟩ | ⟨rfl, rfl⟩
  · obtain ⟨vs, k, a, b⟩ := h266 (W := W); exact ⟨266, vs, k, by rfl, a, b⟩
  · obtain ⟨vs, k, a, b⟩ := h267 (W := W); exact ⟨267, vs, k, by rfl, a, b⟩
  · obtain ⟨vs, k, a, b⟩ := h268 (W := W); exact ⟨268, vs, k, by rfl, a, b⟩
  · obtain ⟨vs, k, a, b⟩ := h269 (W := W); exact ⟨269, vs, k, by rfl, a, b⟩
  · obtain ⟨vs, k, a, b⟩ := h270 (W := W); exact ⟨270, vs, k, by rfl, a, b⟩
  · obtain ⟨vs, k, a, b⟩ := h271 (W := W); exact ⟨271, vs, k, by rfl, a, b⟩
theorem next_some {w : Str} : (valueAt nkv w).isSome = (nextOf w).isSome := by
  unfold valueAt nextOf nkv nextL
  rw [Option.isSome_map, Option.isSome_map, Bool.eq_iff_iff, List.find?_isSome, List.find?_isSome]
  simp
theorem erase_last {st : List Value} {v : Value} : ((st ++ [v]).toArray).eraseIdxIfInBounds ((st ++ [v]).toArray.size - 1) = st.toArray := by
  have h1 : (st ++ [v]).toArray.size - 1 = st.length := by simp
  rw [h1]
  unfold Array.eraseIdxIfInBounds
  rw [dif_pos (by simp)]
  rw [← Array.toList_inj]
  simp [List.eraseIdx_append_of_length_le]
theorem l_pop {p3 : Pos} {st : List Value} {v : Value} (D : Led W G L m (pre ++ (l, isL (st ++ [v]).toArray) :: post) s) (hz : st.length ≤ 100000)
    (h : ∀ s', Led W G L m (pre ++ (l, isL st.toArray) :: post) s' → Q v s') : wpAny (model pw W.w) A (callWith p3 (.builtin "list.pop") [.ref l] [] []) Q E s := by
  obtain ⟨k, e⟩ := isL_get (D.nw (l, isL (st ++ [v]).toArray) (by simp)).1
  refine PySem.P.pop_list e ?_ (h _ (D.update _ fun o ho => ?_)) (by rw [sizeLine_eq]; simp; lia)
  · simp
  · obtain ⟨n, rfl⟩ := ho
    refine ⟨rfl, ?_⟩
    unfold Obj.mapSeq
    dsimp only
    rw [erase_last]
    exact ⟨_, rfl⟩
theorem reads_strs {h : Heap} : ∀ {vs : List Value} {xs : List Str}, StrsAre vs xs → ReadsAll h vs (xs.map .str) []
  | _, _, .nil => .nil
  | _, _, .cons x t r => by
    have := ReadsAll.cons (h := h) (Reads.str x t) (reads_strs r)
    exact this
/-- wanted != [] -/
theorem ne_nil {e : Expr} {p1 p2 : Pos} {whole : Sem Value} {QB : Bool → Shared → Prop} (hu : A.units + 64 < cLine)
    (h : wpAny (model pw W.w) A (eval e env) (fun v s₁ => ∃ G L m news l vs xs, v = .ref l ∧ Led W G L m news s₁ ∧ (∀ s', Led W G L m news s' → ∃ k, s'.heap.get? l = some (lstOf (vs : List Value).toArray k)) ∧ StrsAre vs xs ∧ (xs.all PyData.strOk) = true ∧ ∀ s', Led W G L m news s' → QB (!xs.isEmpty) s') E s) :
    wpAny (model pw W.w) A (PySem.isTrue (.Compare e [.NotEq] [.List [] p1] p2) env whole) QB E s := by
  refine wpAny_isTrue_Compare1 (wpAny_mono h (fun v s₁ h₁ => ?_) fun _ _ z => z)
  refine hideP fun PH1 hPH1 => ?_
  obtain ⟨G, L, m, news, l, vs, xs, rfl, D, hl, hS, hok, hq⟩ := h₁
  subst hPH1
  refine List_ (spliced_none (l_new D (by size_fits) fun q s₂ D₂ => ?_))
  obtain ⟨_, hq2⟩ := isL_get (D₂.get (.head _))
  have D₃ := D₂.less (List.sublist_cons_self _ _)
  obtain ⟨k, hl2⟩ := hl _ D₃
  have hlay : ∀ ys : List Str, ys.all PyData.strOk = true → PyData.canLayAll0 (ys.map .str) = true := by
    intro ys
    induction ys with
    | nil => intro _; rfl
    | cons y ys ih =>
      intro h
      rw [List.all_cons, Bool.and_eq_true] at h
      show (PyData.canLay0 (.str y) && PyData.canLayAll0 (ys.map .str)) = true
      rw [Bool.and_eq_true]
      exact ⟨h.1, ih h.2⟩
  refine SeqAt.compareNe_reads (da := .list (xs.map .str)) (db := .list []) (Reads.list hl2 rfl rfl (reads_strs hS)) (Reads.list hq2 rfl rfl ReadsAll.nil) (hlay xs hok) rfl ?_ (wpAny_truthy_bool ?_)
  · have h1 : min (PyData.depth (.list (xs.map .str))) (PyData.depth (.list [])) ≤ PyData.depth (.list []) := Nat.min_le_right _ _
    have h2 : PyData.depth (.list []) ≤ 2 := by decide
    lia
  · have : (!PyData.eqv (.list (xs.map .str)) (.list [])) = !xs.isEmpty := by
      cases xs <;> rfl
    rw [this]
    exact hq _ D₃
theorem wants_ok : ∀ w ∈ wants, PyData.strOk w = true := by decide +kernel
theorem fmg_next : nsIn (hd.heap_39 W.w.params) mainGlobals "_law_next" = some (some (.ref 265)) := by k_is
theorem fmg_gone : nsIn (hd.heap_39 W.w.params) mainGlobals "_law_gone" = some (some (.ref 313)) := by k_is
theorem k313 : keepIn (hd.heap_39 W.w.params) (.ref 313) = true := by k_is
theorem x_cont {pos : Pos} {rest : List Stmt} {QF : Flow → Shared → Prop} (h : QF .cont s) : wpAny (model pw W.w) A (execs (.Continue pos :: rest) env) QF E s := wpAny_execs_cons (wpAny_Continue h)
theorem t_ne {o c y : Str} {t : Tok} {p1 p2 p3 : Pos} {k : Nat} {qn : Str} {sc : Scope} {fa : Addr} {cd : Value} {whole : Sem Value} {Q : Bool → Shared → Prop} (D : Led W G L m news s) (hv : lk m o = some (.str y t)) (h : ∀ s', Led W G L m news s' → Q (y != c) s')
    (hk : sc.kind = .function := by rfl) (hl : (envOf qn sc L fa cd).kindOf o = some .local := by rfl) (hd : (o == ("__debug__" : Str)) = false := by decide) :
    wpAny (model pw W.w) A (PySem.isTrue (.Compare (.Name o p1) [.NotEq] [.Constant (.str c) k p2] p3) (envOf qn sc L fa cd) whole) Q E s :=
  wpAny_isTrue_Compare1 (n_loc D hv (e_str D fun s' t' D' => ne_str (wpAny_truthy_bool (h _ D'))) hk hl hd)
theorem t_in2 {o a b y : Str} {t : Tok} {p1 p2 p3 qa qb : Pos} {k ka kb : Nat} {qn : Str} {sc : Scope} {fa : Addr} {cd : Value} {whole : Sem Value} {Q : Bool → Shared → Prop} (D : Led W G L m news s) (hv : lk m o = some (.str y t)) (h : ∀ s' G', Led W G' L m news s' → G.StaysIn G' → Q (anyS [a, b] y) s')
    (hk : sc.kind = .function := by rfl) (hl : (envOf qn sc L fa cd).kindOf o = some .local := by rfl) (hd : (o == ("__debug__" : Str)) = false := by decide) :
    wpAny (model pw W.w) A (PySem.isTrue (.Compare (.Name o p1) [.In] [.Tuple [.Constant (.str a) ka qa, .Constant (.str b) kb qb] k p2] p3) (envOf qn sc L fa cd) whole) Q E s := by
  refine wpAny_isTrue_Compare1 (n_loc D hv ?_ hk hl hd)
  refine Tuple_ ?_
  refine spliced_more (e_str D fun s₁ t₁ D₁ => ?_)
  refine spliced_more (e_str D₁ fun s₂ t₂ D₂ => ?_)
  refine spliced_none ?_
  refine t_gr D₂ (by size_fits) fun tt s₃ G₃ D₃ g₃ htt => ?_
  exact in_tuple_strs (isTup_of (D₃.at htt)) (ys := [a, b]) (.cons _ _ (.cons _ _ .nil)) (wpAny_truthy_bool (h _ _ D₃ g₃))
theorem t_in3 {o a b c y : Str} {t : Tok} {p1 p2 p3 qa qb qc : Pos} {k ka kb kc : Nat} {qn : Str} {sc : Scope} {fa : Addr} {cd : Value} {whole : Sem Value} {Q : Bool → Shared → Prop} (D : Led W G L m news s) (hv : lk m o = some (.str y t)) (h : ∀ s' G', Led W G' L m news s' → G.StaysIn G' → Q (anyS [a, b, c] y) s')
    (hk : sc.kind = .function := by rfl) (hl : (envOf qn sc L fa cd).kindOf o = some .local := by rfl) (hd : (o == ("__debug__" : Str)) = false := by decide) :
    wpAny (model pw W.w) A (PySem.isTrue (.Compare (.Name o p1) [.In] [.Tuple [.Constant (.str a) ka qa, .Constant (.str b) kb qb, .Constant (.str c) kc qc] k p2] p3) (envOf qn sc L fa cd) whole) Q E s := by
  refine wpAny_isTrue_Compare1 (n_loc D hv ?_ hk hl hd)
  refine Tuple_ ?_
  refine spliced_more (e_str D fun s₁ t₁ D₁ => ?_)
  refine spliced_more (e_str D₁ fun s₂ t₂ D₂ => ?_)
  refine spliced_more (e_str D₂ fun s₃ t₃ D₃ => ?_)
  refine spliced_none ?_
  refine t_gr D₃ (by size_fits) fun tt s₄ G₄ D₄ g₄ htt => ?_
  exact in_tuple_strs (isTup_of (D₄.at htt)) (ys := [a, b, c]) (.cons _ _ (.cons _ _ (.cons _ _ .nil))) (wpAny_truthy_bool (h _ _ D₄ g₄))
theorem t_in4 {o a b c d y : Str} {t : Tok} {p1 p2 p3 qa qb qc qd : Pos} {k ka kb kc kd : Nat} {qn : Str} {sc : Scope} {fa : Addr} {cd : Value} {whole : Sem Value} {Q : Bool → Shared → Prop} (D : Led W G L m news s) (hv : lk m o = some (.str y t)) (h : ∀ s' G', Led W G' L m news s' → G.StaysIn G' → Q (anyS [a, b, c, d] y) s')
    (hk : sc.kind = .function := by rfl) (hl : (envOf qn sc L fa cd).kindOf o = some .local := by rfl) (hdb : (o == ("__debug__" : Str)) = false := by decide) :
    wpAny (model pw W.w) A (PySem.isTrue (.Compare (.Name o p1) [.In] [.Tuple [.Constant (.str a) ka qa, .Constant (.str b) kb qb, .Constant (.str c) kc qc, .Constant (.str d) kd qd] k p2] p3) (envOf qn sc L fa cd) whole) Q E s := by
  refine wpAny_isTrue_Compare1 (n_loc D hv ?_ hk hl hdb)
  refine Tuple_ ?_
  refine spliced_more (e_str D fun s₁ t₁ D₁ => ?_)
  refine spliced_more (e_str D₁ fun s₂ t₂ D₂ => ?_)
  refine spliced_more (e_str D₂ fun s₃ t₃ D₃ => ?_)
  refine spliced_more (e_str D₃ fun s₄ t₄ D₄ => ?_)
  refine spliced_none ?_
  refine t_gr D₄ (by size_fits) fun tt s₅ G₅ D₅ g₅ htt => ?_
  exact in_tuple_strs (isTup_of (D₅.at htt)) (ys := [a, b, c, d]) (.cons _ _ (.cons _ _ (.cons _ _ (.cons _ _ .nil)))) (wpAny_truthy_bool (h _ _ D₅ g₅))
theorem t_and {o o2 a b y z : Str} {t tz : Tok} {p1 p2 p3 p4 p5 p6 p7 : Pos} {k k2 : Nat} {qn : Str} {sc : Scope} {fa : Addr} {cd : Value} {whole : Sem Value} {Q : Bool → Shared → Prop} (D : Led W G L m news s) (hv : lk m o = some (.str y t)) (hv2 : lk m o2 = some (.str z tz))
    (h : ∀ s', Led W G L m news s' → Q (y == a && z == b) s')
    (hk : sc.kind = .function := by rfl) (hl : (envOf qn sc L fa cd).kindOf o = some .local := by rfl) (hl2 : (envOf qn sc L fa cd).kindOf o2 = some .local := by rfl) (hd : (o == ("__debug__" : Str)) = false := by decide) (hd2 : (o2 == ("__debug__" : Str)) = false := by decide) :
    wpAny (model pw W.w) A (PySem.isTrue (.BoolOp .And [.Compare (.Name o p1) [.Eq] [.Constant (.str a) k p2] p3, .Compare (.Name o2 p4) [.Eq] [.Constant (.str b) k2 p5] p6] p7) (envOf qn sc L fa cd) whole) Q E s := by
  refine isTrue_and ?_
  refine t_eq D hv (fun s' D' => ?_) hk hl hd
  cases h1 : (y == a) with
  | false => rw [if_neg (by decide)]; have := h _ D'; rw [h1] at this; exact this
  | true =>
    first | refine if_yes rfl ?_ | rw [if_pos rfl]
    refine isTrue_and ?_
    refine t_eq D' hv2 (fun s'' D'' => ?_) hk hl2 hd2
    have := h _ D''
    rw [h1, Bool.true_and] at this
    cases h2 : (z == b) with
    | false => rw [if_neg (by decide)]; rw [h2] at this; exact this
    | true => rw [if_pos rfl]; rw [h2] at this; exact isTrue_and_nil this
theorem t_andn {o o2 a b y z : Str} {t tz : Tok} {p1 p2 p3 p4 p5 p6 p7 : Pos} {k k2 : Nat} {qn : Str} {sc : Scope} {fa : Addr} {cd : Value} {whole : Sem Value} {Q : Bool → Shared → Prop} (D : Led W G L m news s) (hv : lk m o = some (.str y t)) (hv2 : lk m o2 = some (.str z tz))
    (h : ∀ s', Led W G L m news s' → Q (y == a && z != b) s')
    (hk : sc.kind = .function := by rfl) (hl : (envOf qn sc L fa cd).kindOf o = some .local := by rfl) (hl2 : (envOf qn sc L fa cd).kindOf o2 = some .local := by rfl) (hd : (o == ("__debug__" : Str)) = false := by decide) (hd2 : (o2 == ("__debug__" : Str)) = false := by decide) :
    wpAny (model pw W.w) A (PySem.isTrue (.BoolOp .And [.Compare (.Name o p1) [.Eq] [.Constant (.str a) k p2] p3, .Compare (.Name o2 p4) [.NotEq] [.Constant (.str b) k2 p5] p6] p7) (envOf qn sc L fa cd) whole) Q E s := by
  refine isTrue_and ?_
  refine t_eq D hv (fun s' D' => ?_) hk hl hd
  cases h1 : (y == a) with
  | false => rw [if_neg (by decide)]; have := h _ D'; rw [h1] at this; exact this
  | true =>
    first | refine if_yes rfl ?_ | rw [if_pos rfl]
    refine isTrue_and ?_
    refine t_ne D' hv2 (fun s'' D'' => ?_) hk hl2 hd2
    have := h _ D''
    rw [h1, Bool.true_and] at this
    cases h2 : (z != b) with
    | false => rw [if_neg (by decide)]; rw [h2] at this; exact this
    | true => rw [if_pos rfl]; rw [h2] at this; exact isTrue_and_nil this
noncomputable def JQ (J : Shared → Prop) (Q : Flow → Shared → Prop) (f : Flow) (s : Shared) : Prop := match f with
  | .next => J s
  | f => Q f s
theorem jq_next {J : Shared → Prop} {QF : Flow → Shared → Prop} (h : J s) : JQ J QF .next s := h
theorem jq_ret {J : Shared → Prop} {QF : Flow → Shared → Prop} (h : QF (.ret v) s) : JQ J QF (.ret v) s := h
theorem x_ifK {test : Expr} {body orelse rest : List Stmt} {p0 : Pos} {QF : Flow → Shared → Prop} (J : Shared → Prop)
    (h : ∀ Q', Q' = JQ J QF → wpAny (model pw W.w) A (PySem.isTrue test env (eval test env)) (fun b s₂ => if b = true then wpAny (model pw W.w) A (execs body env) Q' E s₂ else wpAny (model pw W.w) A (execs orelse env) Q' E s₂) E s)
    (hr : ∀ s', J s' → wpAny (model pw W.w) A (execs rest env) QF E s') : wpAny (model pw W.w) A (execs (.If test body orelse p0 :: rest) env) QF E s := by
  refine x_if (wpAny_mono (h _ rfl) (fun b s₂ h₂ => ?_) fun _ _ z => z)
  have key : ∀ f s', JQ J QF f s' → SeqQ W A rest env QF E f s' := fun f s' h' => by
    cases f with
    | next => exact seq_next (hr _ h')
    | _ => exact h'
  cases b with
  | true =>
    rw [if_pos rfl] at h₂ ⊢
    exact wpAny_mono h₂ key fun _ _ z => z
  | false =>
    rw [if_neg (by decide)] at h₂ ⊢
    exact wpAny_mono h₂ key fun _ _ z => z
theorem chop_slice {w : Str} (h : w ∈ loops) (h2 : (w == ("places" : Str)) = false) : Txt.slice w none (some (-1)) = chop w := by
  simp only [loops, List.mem_cons, List.not_mem_nil, or_false] at h
  rcases h with rfl | rfl | rfl
  · decide +kernel
  · decide +kernel
  · exact absurd h2 (by decide +kernel)
theorem chop_no (w : Str) : chop w ∉ loops := by
  unfold chop
  split
  · decide +kernel
  split <;> decide +kernel
theorem strs_snoc {vs : List Value} {xs : List Str} {x : Str} (h : StrsAre vs (xs ++ [x])) : ∃ vs' t, vs = vs' ++ [.str x t] ∧ StrsAre vs' xs := by
  have h1 := strs_take xs.length h
  have h2 := strs_drop xs.length h
  rw [List.take_left] at h1
  rw [List.drop_left] at h2
  obtain ⟨a, b⟩ : ∃ a b, vs.drop xs.length = [.str a b] ∧ a = x := by
    generalize vs.drop xs.length = q at h2
    cases h2 with
    | cons y t r => cases r; exact ⟨_, _, rfl, rfl⟩
  obtain ⟨b, hb, rfl⟩ := b
  exact ⟨vs.take xs.length, b, by rw [← hb, List.take_append_drop], h1⟩
theorem jqH {Q' : Flow → Shared → Prop} {J : Shared → Prop} {QF : Flow → Shared → Prop} (hQ : Q' = JQ J QF) (h : J s) : Q' .next s := by rw [hQ]; exact h
theorem jqHr {v : Value} {Q' : Flow → Shared → Prop} {J : Shared → Prop} {QF : Flow → Shared → Prop} (hQ : Q' = JQ J QF) (h : QF (.ret v) s) : Q' (.ret v) s := by rw [hQ]; exact h
theorem st_more {a : Act} {l : List Str} {P : List Str → Prop} {R : List Str → List Str → Prop} {B : Prop} (h : (∃ p, a = .more p ∧ P p) ∨ (∃ p ns', a = .go p ns' ∧ R p ns') ∨ (a = .bad ∧ B)) (e : a = .more l) : P l := by
  subst e
  rcases h with ⟨p, h1, h2⟩ | ⟨p, n, h1, _⟩ | ⟨h1, _⟩
  · cases h1; exact h2
  · cases h1
  · cases h1
theorem st_go {a : Act} {l n : List Str} {P : List Str → Prop} {R : List Str → List Str → Prop} {B : Prop} (h : (∃ p, a = .more p ∧ P p) ∨ (∃ p ns', a = .go p ns' ∧ R p ns') ∨ (a = .bad ∧ B)) (e : a = .go l n) : R l n := by
  subst e
  rcases h with ⟨p, h1, h2⟩ | ⟨p, n, h1, h2⟩ | ⟨h1, _⟩
  · cases h1
  · cases h1; exact h2
  · cases h1
theorem st_bad {a : Act} {P : List Str → Prop} {R : List Str → List Str → Prop} {B : Prop} (h : (∃ p, a = .more p ∧ P p) ∨ (∃ p ns', a = .go p ns' ∧ R p ns') ∨ (a = .bad ∧ B)) (e : a = .bad) : B := by
  subst e
  rcases h with ⟨p, h1, h2⟩ | ⟨p, n, h1, _⟩ | ⟨_, h2⟩
  · cases h1
  · cases h1
  · exact h2
inductive GoneI (W : Wd) (L wa so : Addr) (ws : List (Str × Int)) (wl : List Str) (mm : Nat) (bb : Bool) (G₁₀ : Heap) (n' : Nat) (s' : Shared) : Prop
  | mk (i : Nat) (ti : Tok) (st ns : List Str) (sv nv : List Value) (na : Addr) (mI : List (Str × Value)) (G' : Heap) (_ : GN ws n' i st ns mm bb) (_ : i ≤ wl.length) (_ : Led W G' L mI [(na, isL nv.toArray), (wa, isL sv.toArray)] s') (_ : lk mI "some" = some (.ref so)) (_ : lk mI "at" = some (.int i ti)) (_ : lk mI "wanted" = some (.ref wa)) (_ : lk mI "names" = some (.ref na)) (_ : StrsAre sv st) (_ : StrsAre nv ns) (_ : (∀ x ∈ st, x ∈ wants)) (_ : st.length ≤ 3 * i + 2) (_ : (∀ st' w, st = st' ++ [w] → w ∈ loops → st.length ≤ 3 * i + 1)) (_ : ns.length ≤ i) (_ : G₁₀.StaysIn G') : GoneI W L wa so ws wl mm bb G₁₀ n' s'
inductive GoneJ (W : Wd) (L wa so : Addr) (i : Nat) (ti : Tok) (w want : Str) (ns : List Str) (sv' : List Value) (G₂₂ : Heap) (s' : Shared) : Prop
  | mk (p ns2 : List Str) (pv nv2 : List Value) (na2 : Addr) (m2 : List (Str × Value)) (G2 : Heap) (_ : act w want ns = .go p ns2) (_ : Led W G2 L m2 [(na2, isL nv2.toArray), (wa, isL (sv' ++ pv).toArray)] s') (_ : lk m2 "some" = some (.ref so)) (_ : lk m2 "at" = some (.int i ti)) (_ : lk m2 "wanted" = some (.ref wa)) (_ : lk m2 "names" = some (.ref na2)) (_ : StrsAre pv p) (_ : StrsAre nv2 ns2) (_ : G₂₂.StaysIn G2) : GoneJ W L wa so i ti w want ns sv' G₂₂ s'
theorem c_gone {lw : Addr} {wl : List Str} {ws : List (Str × Int)} {k0 mm : Nat} {bb : Bool} (hs : Hs W G s) (hdp : A.depth + 5 ≤ 990) (hh : A.handled = none) (hu : A.units + 100 < cLine) (hS : StrL G lw wl) (hz : wl.length ≤ 1000)
    (hw : ∀ i w, (wl ++ [("" : Str)])[i]? = some w → nw ws i = w) (hwz : ∀ (i : Nat) (w : Str), (wl ++ [("" : Str)])[i]? = some w → w.length ≤ sizeLine) (hG : GN ws k0 0 ["paper"] [] mm bb)
    (k : ∀ s' a n1 t, Hs W s.heap s' → s'.heap.get? a = some (tupOf [.int mm t, .bool bb] n1) → mm ≤ wl.length → Q (.ref a) s') :
    wpAny (model pw W.w) A (call (.ref 313) [.ref lw]) Q E s := by
  obtain ⟨vs, nl, hl, hSt⟩ := hS.mono hs.keep
  have hlen : vs.length = wl.length := strs_len hSt
  refine enterC [("words", .ref lw)] (news := []) hs.all (fun _ h => nomatch h) List.nodup_nil (by k_is) (by k_is) (show A.depth < 1000 by lia) rfl rfl rfl rfl rfl (by decide) fun L s₁ D stk hL => ?_
  refine hide fun Qe Ee hQe hEe => ?_
  have hu' : ∀ env, (A.deeper env).units + 64 < cLine := fun env => show A.units + 3 + 64 < cLine by lia
  refine x_asgT ?_
  refine Tuple_ ?_
  refine spliced_more ?_
  refine wpAny_BinOp ?_
  refine n_loc D lk_hd ?_
  refine List_ ?_
  refine spliced_more (e_str D fun s₂ t₂ D₂ => ?_)
  refine spliced_none (l_new D₂ (by size_fits) fun q s₃ D₃ => ?_)
  obtain ⟨n2, hq⟩ := isL_get (D₃.get (.head _))
  refine l_add D₃ (D₃.at hl) hq (by rw [sizeLine_eq]; simp; lia) fun so s₄ D₄ na4 => ?_
  obtain ⟨n3, hso⟩ := isL_get (D₄.get (.head _))
  obtain ⟨G₄, D₅, g₄, hsG⟩ := gr_of D₄ hso
  have D₅ := D₅.less (List.nil_sublist _)
  refine spliced_more (e_int D₅ fun s₆ t₆ D₆ => ?_)
  refine spliced_more ?_
  refine List_ ?_
  refine spliced_more (e_str D₆ fun s₇ t₇ D₇ => ?_)
  refine spliced_none (l_new D₇ (by size_fits) fun wa s₈ D₈ => ?_)
  refine spliced_more ?_
  refine List_ ?_
  refine spliced_none (l_new D₈ (by size_fits) fun na s₉ D₉ => ?_)
  refine spliced_none ?_
  refine t_gr D₉ (by size_fits) fun ta s₁₀ G₁₀ D₁₀ g₁₀ hta => ?_
  refine wpAny_assign_Tuple hh (isTuple_of (D₁₀.at hta)) rfl rfl fun h' he => ?_
  have D₁₁ := D₁₀.kept (s' := { s₁₀ with heap := h' }) fun b o e => he b o (Nat.ne_of_lt (Heap.lt_size e)) e
  show wpAny (model pw W.w) _ (assignInOrder [assign _ _, assign _ _, assign _ _, assign _ _] [_, _, _, _]) _ _ _
  refine assignInOrder_cons (wpAny_assign_Name (s_loc D₁₁ fun s₁₂ D₁₂ => ?_))
  refine assignInOrder_cons (wpAny_assign_Name (s_loc D₁₂ fun s₁₃ D₁₃ => ?_))
  refine assignInOrder_cons (wpAny_assign_Name (s_loc D₁₃ fun s₁₄ D₁₄ => ?_))
  refine assignInOrder_cons (wpAny_assign_Name (s_loc D₁₄ fun s₁₅ D₁₅ => ?_))
  refine assignInOrder_nil ?_
  have hsome : StrsAre (vs ++ [.str "" t₂]) (wl ++ [("" : Str)]) := strs_app hSt (.cons _ _ .nil)
  have hsG' := g₁₀ _ _ hsG
  refine x_whileH (GoneI W L wa so ws wl mm bb G₁₀) k0 ?_ ?_
  · refine ⟨0, t₆, ["paper"], [], [.str "paper" t₇], [], na, _, G₁₀, hG, Nat.zero_le _, D₁₅, lk_tl (lk_tl (lk_tl lk_hd)), lk_tl (lk_tl lk_hd), lk_tl lk_hd, lk_hd, .cons _ _ .nil, .nil, by decide +kernel, by decide, fun _ _ _ _ => by decide, Nat.le_refl _, fun _ _ z => z⟩
  · rintro Q₁ E₁ B₁ T₁ hQ₁ hE₁ hB₁ hT₁ n' s₁₆ ⟨i, ti, st, ns, sv, nv, na, mI, G', hGN, hi, D₁₆, l1, l2, l3, l4, hSs, hSn, hwa, hsl, hsl2, hnl, g'⟩
    refine ne_nil (hu' _) ?_
    refine n_loc D₁₆ l3 ?_
    refine ⟨_, _, _, _, wa, sv, st, rfl, D₁₆, fun s' D' => isL_get (D'.nw (wa, _) (.tail _ (.head _))).1, hSs, by rw [List.all_eq_true]; exact fun x hx => wants_ok x (hwa x hx), fun s₁₇ D₁₇ => ?_⟩
    rcases List.eq_nil_or_concat st with rfl | ⟨st', want, rfl⟩
    · obtain ⟨rfl, rfl⟩ := GN_nil hGN
      first | refine if_no (show (!([] : List Str).isEmpty) = false from rfl) ?_ | rw [show (!([] : List Str).isEmpty) = false from rfl, if_neg (by decide)]
      refine x_ret ?_
      refine Tuple_ ?_
      refine spliced_more ?_
      refine n_loc D₁₇ l2 ?_
      refine spliced_more (wpAny_Constant_bool ?_)
      refine spliced_none ?_
      refine t_new D₁₇ (by size_fits) fun ta s₁₈ D₁₈ => ?_
      obtain ⟨_, hta, rfl⟩ := D₁₈.get (.head _)
      have gall : s.heap.StaysIn G' := fun b o e => g' b o (g₁₀ b o (g₄ b o e))
      subst hQ₁
      subst hQe; exact ret_v (k _ _ _ _ (D₁₈.lo gall hs.all.top).hs hta hi)
    · rw [List.concat_eq_append] at *
      first | refine if_yes (show (!(st' ++ [want]).isEmpty) = true from (by simp)) ?_ | rw [show (!(st' ++ [want]).isEmpty) = true from by simp, if_pos rfl]
      have gall : s.heap.StaysIn G' := fun b o e => g' b o (g₁₀ b o (g₄ b o e))
      obtain ⟨k', rfl, hstep⟩ := GN_in hGN
      obtain ⟨sv', tw, rfl, hSs'⟩ := strs_snoc hSs
      have hsv' : sv'.length = st'.length := strs_len hSs'
      have hst' : st'.length + 1 ≤ 3 * i + 2 := by simpa using hsl
      have hwm := hwa want (by simp)
      obtain ⟨w, hwi⟩ : ∃ w, (wl ++ [("" : Str)])[i]? = some w := ⟨_, List.getElem?_eq_getElem (by simp; lia)⟩
      obtain ⟨tv, hvi⟩ := (strs_at hsome).2 i w hwi
      have hnw := hw i w hwi
      rw [hnw] at hstep
      refine x_asg2 hh ?_
      refine Tuple_ ?_
      refine spliced_more ?_
      refine Subscript_ ?_
      refine n_loc D₁₇ l1 ?_
      refine n_loc D₁₇ l2 ?_
      refine li_get (D₁₇.at (g' _ _ hsG')) rfl (by lia) (by simpa using hvi) ?_
      refine spliced_more ?_
      refine l_meth (p1 := default) PySem.F.slot_list_pop PySem.F.type_list_pop ?_
      refine n_loc D₁₇ l3 ?_
      obtain ⟨kw, hwa17⟩ := isL_get (D₁₇.nw (wa, _) (.tail _ (.head _))).1
      refine ⟨wa, kw, _, rfl, hwa17, ?_⟩
      refine l_pop (pre := [(na, isL nv.toArray)]) (post := []) (st := sv') (v := .str want tw) D₁₇ (by lia) fun s₁₈ D₁₈ => ?_
      refine spliced_none ?_
      refine t_gr D₁₈ (by size_fits) fun tt s₁₉ G₁₉ D₁₉ g₁₉ htt => ?_
      refine ⟨G₁₉, _, _, tt, _, _, 0, rfl, D₁₉, D₁₉.at htt, fun s₂₀ D₂₀ => ?_⟩
      refine x_asg ?_
      refine wpAny_Compare1 ?_
      refine n_loc D₂₀ lk_hd ?_
      obtain ⟨vsg, ksg, hSg, hlg⟩ := h263 (W := W)
      refine n_glb D₂₀ (mg_some hs.st fmg_signs) ?_
      refine notin_tuple_strs (isTup_of (D₂₀.hs.X _ _ hlg)) (ys := signs) hSg ?_
      refine s_loc (v := .bool (isW w)) D₂₀ fun s₂₁ D₂₁ => ?_
      refine gen (("is_word", .bool (isW w)) :: ("word", .str w tv) :: ("want", .str want tw) :: mI : List (Str × Value)) fun m6 hm6 => ?_
      rw [hm6] at D₂₁
      have q1 : lk m6 "word" = some (.str w tv) := by subst hm6; exact lk_tl lk_hd
      have q2 : lk m6 "want" = some (.str want tw) := by subst hm6; exact lk_tl (lk_tl lk_hd)
      have q3 : lk m6 "is_word" = some (.bool (isW w)) := by subst hm6; exact lk_hd
      have q4 : lk m6 "some" = some (.ref so) := by subst hm6; exact lk_tl (lk_tl (lk_tl l1))
      have q5 : lk m6 "at" = some (.int i ti) := by subst hm6; exact lk_tl (lk_tl (lk_tl l2))
      have q6 : lk m6 "wanted" = some (.ref wa) := by subst hm6; exact lk_tl (lk_tl (lk_tl l3))
      have q7 : lk m6 "names" = some (.ref na) := by subst hm6; exact lk_tl (lk_tl (lk_tl l4))
      clear hm6 l1 l2 l3 l4
      refine x_if ?_
      refine wpAny_mono (Q := fun b s' => b = (anyS loops want && w != (")" : Str)) ∧ ∃ G2, Led W G2 L m6 [(na, isL nv.toArray), (wa, isL sv'.toArray)] s' ∧ G₁₉.StaysIn G2) (isTrue_and ?_) (fun b s₂₂ h₂₂ => ?_) fun _ _ z => z
      · refine t_in3 D₂₁ q2 fun s' G2 D' g2 => ?_
        show if anyS loops want = true then _ else _
        cases anyS loops want with
        | false => rw [if_neg (by decide)]; exact ⟨rfl, G2, D', g2⟩
        | true =>
          first | refine if_yes rfl ?_ | rw [if_pos rfl]
          refine isTrue_and ?_
          refine t_ne D' q1 fun s'' D'' => ?_
          cases hb : (w != (")" : Str)) with
          | false => rw [if_neg (by decide)]; exact ⟨rfl, G2, D'', g2⟩
          | true => rw [if_pos rfl]; exact isTrue_and_nil ⟨rfl, G2, D'', g2⟩
      obtain ⟨rfl, G₂₂, D₂₂, g₂₂⟩ := h₂₂
      cases hc1 : (anyS loops want && w != (")" : Str)) with
      | true =>
        first | refine if_yes rfl ?_ | rw [if_pos rfl]
        have hact : act w want ns = .more [want, chop want] := act1 hc1
        rw [Bool.and_eq_true] at hc1
        have hwl := anyS_mem.mp hc1.1
        have hGN' : GN ws k' i (st' ++ [want, chop want]) ns mm bb := st_more hstep hact
        refine x_extend (pre := [(na, isL nv.toArray)]) D₂₂ q6 ?_
        refine List_ ?_
        refine spliced_more ?_
        refine n_loc D₂₂ q2 ?_
        refine spliced_more ?_
        refine wpAny_mono (Q := fun v s' => ∃ t, v = .str (chop want) t ∧ Led W G₂₂ L m6 [(na, isL nv.toArray), (wa, isL sv'.toArray)] s') (IfExp_ ?_) (fun v s₂₃ h₂₃ => ?_) fun _ _ z => z
        · refine t_eq D₂₂ q2 fun s' D' => ?_
          cases hp : (want == ("places" : Str)) with
          | true =>
            first | refine if_yes rfl ?_ | rw [if_pos rfl]
            have : chop want = "name" := by rw [beq_iff_eq.mp hp]; decide +kernel
            rw [this]
            exact e_str D' fun s'' t'' D'' => ⟨_, rfl, D''⟩
          | false =>
            first | refine if_no rfl ?_ | rw [if_neg (by decide)]
            refine Subscript_ ?_
            refine n_loc D' q2 ?_
            refine wpAny_Slice (ep_none (ep_some ?_))
            refine PyProof.Rows.lit_neg _ fun v tk hv => ?_
            obtain ⟨tn, rfl⟩ : ∃ tn, v = .int (-1) tn := PyProof.Rows.IsDatum.int hv
            refine ep_none ?_
            have hwl5 : want.length ≤ sizeLine := by
              simp only [loops, List.mem_cons, List.not_mem_nil, or_false] at hwl
              rcases hwl with rfl | rfl | rfl <;> decide +kernel
            refine st_slice (l := none) (u := some (-1, tn)) ((D'.tok tk).pushed _ rfl) ⟨_, Heap.get?_push_size _ rfl, rfl, rfl⟩ hwl5 fun s'' t'' D'' => ?_
            refine ⟨t'', ?_, D''⟩
            rw [← chop_slice hwl hp]
            rfl
        obtain ⟨tc, rfl, D₂₃⟩ := h₂₃
        refine spliced_none ?_
        refine l_new D₂₃ (by size_fits) fun lx s₂₄ D₂₄ => ?_
        obtain ⟨kx, hlx⟩ := isL_get (D₂₄.get (.head _))
        refine ⟨_, _, [(lx, isL _), (na, isL nv.toArray)], [], _, lx, _, kx, rfl, D₂₄, hlx, by rw [sizeLine_eq]; simp; lia, fun s₂₅ D₂₅ => ?_⟩
        have D₂₅ := D₂₅.less (news' := [(na, isL nv.toArray), (wa, isL _)]) (List.sublist_cons_self _ _)
        refine x_cont (seq_cont ?_)
        subst hB₁
        refine ⟨k', by lia, i, ti, st' ++ [want, chop want], ns, sv' ++ [.str want tw, .str (chop want) tc], nv, na, m6, G₂₂, hGN', hi, ?_, q4, q5, q6, q7, strs_app hSs' (.cons _ _ (.cons _ _ .nil)), hSn, ?_, ?_, ?_, hnl, fun b o e => g₂₂ b o (g₁₉ b o (g' b o e))⟩
        · rw [show (sv' ++ [Value.str want tw, Value.str (chop want) tc]).toArray = sv'.toArray ++ ([Value.str want tw, Value.str (chop want) tc] : List Value).toArray from by simp]
          exact D₂₅
        · intro x hx
          rcases List.mem_append.mp hx with hx | hx
          · exact hwa x (by simp [hx])
          · have hcl := chop_loop want hwl
            simp only [List.mem_cons, List.not_mem_nil, or_false] at hx
            rcases hx with rfl | rfl
            · exact hcl.2
            · exact hcl.1
        · have := hsl2 st' want rfl hwl
          simp at this ⊢
          lia
        · intro st2 w2 e hw2
          rw [show st' ++ [want, chop want] = (st' ++ [want]) ++ [chop want] from by simp] at e
          obtain ⟨_, e2⟩ := List.append_inj' e rfl
          cases e2
          exact absurd hw2 (chop_no want)
      | false =>
        first | refine if_no rfl ?_ | rw [if_neg (by decide)]
        refine x_nil (seq_next ?_)
        refine x_ifK (J := GoneJ W L wa so i ti w want ns sv' G₂₂) ?_ fun s₂₃ h₂₃ => ?_
        · intro QJ hJQ
          have hpk : ∀ (l : List Str) (vsl : List Value), StrsAre vsl l → vsl.length = l.length := fun _ _ h => strs_len h
          refine t_and D₂₂ q2 q1 fun s₂₃ D₂₃ => ?_
          cases hc2 : (want == ("term" : Str) && w == ("(" : Str)) with
          | true =>
            first | refine if_yes rfl ?_ | rw [if_pos rfl]
            have hact : act w want ns = .go ["terms", "term", "word"] ns := act2 hc1 hc2
            refine x_extend (pre := [(na, isL nv.toArray)]) D₂₃ q6 ?_
            refine List_ ?_
            refine spliced_more (e_str D₂₃ fun s₂₄ ta D₂₄ => ?_)
            refine spliced_more (e_str D₂₄ fun s₂₅ tb D₂₅ => ?_)
            refine spliced_more (e_str D₂₅ fun s₂₆ tc D₂₆ => ?_)
            refine spliced_none ?_
            refine l_new D₂₆ (by size_fits) fun lx s₂₇ D₂₇ => ?_
            obtain ⟨kx, hlx⟩ := isL_get (D₂₇.get (.head _))
            refine ⟨_, _, [(lx, isL _), (na, isL nv.toArray)], [], _, lx, _, kx, rfl, D₂₇, hlx, by rw [sizeLine_eq]; simp; lia, fun s₂₈ D₂₈ => x_nil (jqH hJQ ?_)⟩
            have D₂₈ := D₂₈.less (news' := [(na, isL nv.toArray), (wa, isL _)]) (List.sublist_cons_self _ _)
            refine ⟨_, _, [.str "terms" ta, .str "term" tb, .str "word" tc], nv, na, m6, G₂₂, hact, ?_, q4, q5, q6, q7, .cons _ _ (.cons _ _ (.cons _ _ .nil)), hSn, fun _ _ z => z⟩
            rw [show (sv' ++ [Value.str "terms" ta, Value.str "term" tb, Value.str "word" tc]).toArray = sv'.toArray ++ ([Value.str "terms" ta, Value.str "term" tb, Value.str "word" tc] : List Value).toArray from by simp]
            exact D₂₈
          | false =>
          first | refine if_no rfl ?_ | rw [if_neg (by decide)]
          refine x_if ?_
          refine t_and D₂₃ q2 q1 fun s₂₄ D₂₄ => ?_
          cases hc3 : (want == ("paper" : Str) && w == ("(" : Str)) with
          | true =>
            first | refine if_yes rfl ?_ | rw [if_pos rfl]
            have hact : act w want ns = .go ["kind"] ns := act3 hc1 hc2 hc3
            refine x_append (pre := [(na, isL nv.toArray)]) D₂₄ q6 ?_
            refine e_str D₂₄ fun s₂₅ tb D₂₅ => ?_
            refine ⟨G₂₂, m6, [(na, isL nv.toArray)], [], _, D₂₅, by rw [sizeLine_eq]; simp; lia, fun s₂₆ D₂₆ => x_nil (seq_next (x_nil (jqH hJQ ?_)))⟩
            refine ⟨_, _, [.str "kind" tb], nv, na, m6, G₂₂, hact, ?_, q4, q5, q6, q7, .cons _ _ .nil, hSn, fun _ _ z => z⟩
            rw [show (sv' ++ [Value.str "kind" tb]).toArray = sv'.toArray.push (.str "kind" tb) from by simp]
            exact D₂₆
          | false =>
          first | refine if_no rfl ?_ | rw [if_neg (by decide)]
          refine x_if ?_
          refine wpAny_mono (Q := fun b s' => b = (want == ("kind" : Str) && (nextOf w).isSome) ∧ Led W G₂₂ L m6 [(na, isL nv.toArray), (wa, isL sv'.toArray)] s') (isTrue_and ?_) (fun b s₂₅ h₂₅ => ?_) fun _ _ z => z
          · refine t_eq D₂₄ q2 fun s' D' => ?_
            cases hb : (want == ("kind" : Str)) with
            | false => rw [if_neg (by decide)]; exact ⟨rfl, D'⟩
            | true =>
              first | refine if_yes rfl ?_ | rw [if_pos rfl]
              refine isTrue_and ?_
              refine wpAny_isTrue_Compare1 ?_
              refine n_loc D' q1 ?_
              refine n_glb D' (mg_some hs.st fmg_next) ?_
              obtain ⟨o5, ho5, hd5⟩ := h265 (W := W)
              refine wpAny_in_of (knd := PySem.strKind pw W.w) (k := w) key_str (by decide) (dictOf_of ⟨o5, D'.hs.X _ _ ho5, hd5⟩).mapOf ?_
              refine wpAny_truthy_bool ?_
              rw [next_some]
              cases hn : (nextOf w).isSome with
              | false => rw [if_neg (by decide)]; exact ⟨rfl, D'.tok _⟩
              | true => rw [if_pos rfl]; exact isTrue_and_nil ⟨rfl, D'.tok _⟩
          obtain ⟨rfl, D₂₅⟩ := h₂₅
          cases hc4 : (want == ("kind" : Str) && (nextOf w).isSome) with
          | true =>
            first | refine if_yes rfl ?_ | rw [if_pos rfl]
            have hc4' := hc4
            rw [Bool.and_eq_true] at hc4'
            obtain ⟨ln, hln⟩ := Option.isSome_iff_exists.mp hc4'.2
            have hact : act w want ns = .go ln [] := act4 hc1 hc2 hc3 hc4 hln
            refine hideP fun PH2 hPH2 => ?_
            obtain ⟨an, vn, kn, hva, hSv, hln2⟩ := next_at (W := W) hln
            subst hPH2
            have hvn : vn.length ≤ 3 := by rw [strs_len hSv]; exact next_len _ (nextOf_mem hln)
            refine x_extend (pre := [(na, isL nv.toArray)]) D₂₅ q6 ?_
            refine Subscript_ ?_
            refine n_glb D₂₅ (mg_some hs.st fmg_next) ?_
            refine n_loc D₂₅ q1 ?_
            obtain ⟨o5, ho5, hd5⟩ := h265 (W := W)
            have hD5 := dictOf_of ⟨o5, D₂₅.hs.X _ _ ho5, hd5⟩
            refine tail_any hD5.typeIs slot_dict_getitem.lookup (wpAny_getItem_of (knd := PySem.strKind pw W.w) (k := w) key_str hD5.mapOf hva ?_) (ops := [.ref 265, .str w tv]) (by with_unfolding_all rfl)
            refine ⟨_, _, [(na, isL nv.toArray)], [], _, an, _, kn, rfl, D₂₅.tok _, D₂₅.hs.X _ _ hln2, by rw [sizeLine_eq]; simp; lia, fun s₂₆ D₂₆ => ?_⟩
            refine x_asg ?_
            refine List_ (spliced_none ?_)
            refine l_new D₂₆ (by size_fits) fun nb s₂₇ D₂₇ => ?_
            refine s_loc D₂₇ fun s₂₈ D₂₈ => ?_
            refine x_nil (seq_next (x_nil (seq_next (x_nil (jqH hJQ ?_)))))
            have D₂₈ := D₂₈.less (news' := [(nb, isL (([] : List Value).toArray)), (wa, isL _)]) (List.Sublist.cons_cons _ (List.sublist_cons_self _ _))
            refine ⟨_, _, vn, [], nb, ("names", .ref nb) :: m6, G₂₂, hact, ?_, lk_tl q4, lk_tl q5, lk_tl q6, lk_hd, hSv, .nil, fun _ _ z => z⟩
            rw [show (sv' ++ vn).toArray = sv'.toArray ++ vn.toArray from by simp]
            exact D₂₈
          | false =>
          first | refine if_no rfl ?_ | rw [if_neg (by decide)]
          refine x_if ?_
          refine wpAny_mono (Q := fun b s' => b = (want == ("name" : Str) && isVar w && !anyS ns w) ∧ Led W G₂₂ L m6 [(na, isL nv.toArray), (wa, isL sv'.toArray)] s') (isTrue_and ?_) (fun b s₂₆ h₂₆ => ?_) fun _ _ z => z
          · refine t_eq D₂₅ q2 fun s' D' => ?_
            cases hb : (want == ("name" : Str)) with
            | false => rw [if_neg (by decide)]; exact ⟨rfl, D'⟩
            | true =>
              first | refine if_yes rfl ?_ | rw [if_pos rfl]
              refine isTrue_and ?_
              refine wpAny_isTrue_Compare1 ?_
              refine Subscript_ ?_
              refine n_loc D' q1 ?_
              refine wpAny_Slice (ep_none (ep_some ?_))
              refine e_int D' fun s'' t'' D'' => ?_
              refine ep_none ?_
              refine st_slice (l := none) (u := some (1, t'')) (D''.pushed _ rfl) ⟨_, Heap.get?_push_size _ rfl, rfl, rfl⟩ (hwz i w hwi) fun s3 t3 D3 => ?_
              refine e_str D3 fun s4 t4 D4 => ?_
              refine eq_str (wpAny_truthy_bool ?_)
              have key : (Txt.slice w none (some 1) == Str.ofString "?") = isVar w := by
                have := slice_one w
                unfold isVar
                cases h : (Txt.slice w none (some 1) == Str.ofString "?") <;> simp_all [bne]
              show if (Txt.slice w none (some 1) == Str.ofString "?") = true then _ else _
              rw [key]
              cases hv : isVar w with
              | false => rw [if_neg (by decide)]; exact ⟨rfl, D4⟩
              | true =>
                first | refine if_yes rfl ?_ | rw [if_pos rfl]
                refine isTrue_and ?_
                refine wpAny_isTrue_Compare1 ?_
                refine n_loc D4 q1 ?_
                refine n_loc D4 q7 ?_
                obtain ⟨kn, hnl4⟩ := isL_get (D4.get (.head _))
                refine notin_list_strs (isList_of hnl4) hSn (wpAny_truthy_bool ?_)
                show if (!anyS ns w) = true then _ else _
                cases (!anyS ns w) with
                | false => rw [if_neg (by decide)]; exact ⟨rfl, D4⟩
                | true => rw [if_pos rfl]; exact isTrue_and_nil ⟨rfl, D4⟩
          obtain ⟨rfl, D₂₆⟩ := h₂₆
          cases hc5 : (want == ("name" : Str) && isVar w && !anyS ns w) with
          | true =>
            first | refine if_yes rfl ?_ | rw [if_pos rfl]
            have hact : act w want ns = .go ["term"] (ns ++ [w]) := act5 hc1 hc2 hc3 hc4 hc5
            have hnvl : nv.length = ns.length := strs_len hSn
            refine x_append (pre := [(na, isL nv.toArray)]) D₂₆ q6 ?_
            refine e_str D₂₆ fun s₂₇ tb D₂₇ => ?_
            refine ⟨G₂₂, m6, [(na, isL nv.toArray)], [], _, D₂₇, by rw [sizeLine_eq]; simp; lia, fun s₂₈ D₂₈ => ?_⟩
            refine x_append (pre := []) D₂₈ q7 ?_
            refine n_loc D₂₈ q1 ?_
            refine ⟨G₂₂, m6, [], [(wa, isL (sv'.toArray.push (.str "term" tb)))], nv.toArray, D₂₈, by rw [sizeLine_eq]; simp; lia, fun s₂₉ D₂₉ => x_nil (seq_next (x_nil (seq_next (x_nil (seq_next (x_nil (jqH hJQ ?_))))))) ⟩
            refine ⟨_, _, [.str "term" tb], nv ++ [.str w tv], na, m6, G₂₂, hact, ?_, q4, q5, q6, q7, .cons _ _ .nil, strs_app hSn (.cons _ _ .nil), fun _ _ z => z⟩
            rw [show (sv' ++ [Value.str "term" tb]).toArray = sv'.toArray.push (.str "term" tb) from by simp, show (nv ++ [Value.str w tv]).toArray = nv.toArray.push (.str w tv) from by simp]
            exact D₂₉
          | false =>
          first | refine if_no rfl ?_ | rw [if_neg (by decide)]
          refine x_if ?_
          refine wpAny_mono (Q := fun b s' => b = (!((anyS ["term", "word"] want && isW w) || anyS [")", "terms", "papers", "places"] want) || (want == (")" : Str) && w != (")" : Str))) ∧ ∃ G2, Led W G2 L m6 [(na, isL nv.toArray), (wa, isL sv'.toArray)] s' ∧ G₂₂.StaysIn G2) (isTrue_or ?_) (fun b s₂₇ h₂₇ => ?_) fun _ _ z => z
          · refine wpAny_isTrue_Not ?_
            refine wpAny_mono (Q := fun b s' => b = ((anyS ["term", "word"] want && isW w) || anyS [")", "terms", "papers", "places"] want) ∧ ∃ G2, Led W G2 L m6 [(na, isL nv.toArray), (wa, isL sv'.toArray)] s' ∧ G₂₂.StaysIn G2) (isTrue_or ?_) (fun b s₂₇ h₂₇ => ?_) fun _ _ z => z
            · refine wpAny_mono (Q := fun b s' => b = (anyS ["term", "word"] want && isW w) ∧ ∃ G2, Led W G2 L m6 [(na, isL nv.toArray), (wa, isL sv'.toArray)] s' ∧ G₂₂.StaysIn G2) (isTrue_and ?_) (fun b s₂₇ h₂₇ => ?_) fun _ _ z => z
              · refine t_in2 D₂₆ q2 fun s1 G1 D1 g1 => ?_
                cases hb : anyS ["term", "word"] want with
                | false => rw [if_neg (by decide)]; exact ⟨rfl, G1, D1, g1⟩
                | true =>
                  first | refine if_yes rfl ?_ | rw [if_pos rfl]
                  refine isTrue_and ?_
                  refine PyProof.Rows.isTrue_plain ?_
                  refine n_loc D1 q3 ?_
                  refine wpAny_truthy_bool ?_
                  cases isW w with
                  | false => rw [if_neg (by decide)]; exact ⟨rfl, G1, D1, g1⟩
                  | true => rw [if_pos rfl]; exact isTrue_and_nil ⟨rfl, G1, D1, g1⟩
              · obtain ⟨rfl, G1, D1, g1⟩ := h₂₇
                cases (anyS ["term", "word"] want && isW w) with
                | true => rw [if_pos rfl]; exact ⟨rfl, G1, D1, g1⟩
                | false =>
                  first | refine if_no rfl ?_ | rw [if_neg (by decide)]
                  refine isTrue_or ?_
                  refine t_in4 D1 q2 fun s2 G2 D2 g2 => ?_
                  cases anyS [")", "terms", "papers", "places"] want with
                  | true => rw [if_pos rfl]; exact ⟨rfl, G2, D2, fun b o e => g2 b o (g1 b o e)⟩
                  | false => rw [if_neg (by decide)]; exact isTrue_or_nil ⟨rfl, G2, D2, fun b o e => g2 b o (g1 b o e)⟩
            · obtain ⟨rfl, G1, D1, g1⟩ := h₂₇
              cases ((anyS ["term", "word"] want && isW w) || anyS [")", "terms", "papers", "places"] want) with
              | false => rw [if_pos (by decide)]; exact ⟨rfl, G1, D1, g1⟩
              | true =>
                first | refine if_no rfl ?_ | rw [if_neg (by decide)]
                refine isTrue_or ?_
                refine t_andn D1 q2 q1 fun s2 D2 => ?_
                cases (want == (")" : Str) && w != (")" : Str)) with
                | true => rw [if_pos rfl]; exact ⟨rfl, G1, D2, g1⟩
                | false => rw [if_neg (by decide)]; exact isTrue_or_nil ⟨rfl, G1, D2, g1⟩
          obtain ⟨rfl, G₂₇, D₂₇, g₂₇⟩ := h₂₇
          cases hc6 : (!((anyS ["term", "word"] want && isW w) || anyS [")", "terms", "papers", "places"] want) || (want == (")" : Str) && w != (")" : Str))) with
          | true =>
            first | refine if_yes rfl ?_ | rw [if_pos rfl]
            have hact : act w want ns = .bad := act6 hc1 hc2 hc3 hc4 hc5 hc6
            obtain ⟨rfl, rfl⟩ := st_bad hstep hact
            refine x_ret ?_
            refine Tuple_ ?_
            refine spliced_more ?_
            refine n_loc D₂₇ q5 ?_
            refine spliced_more (wpAny_Constant_bool ?_)
            refine spliced_none ?_
            refine t_new D₂₇ (by size_fits) fun ta s₂₈ D₂₈ => ?_
            obtain ⟨_, hta, rfl⟩ := D₂₈.get (.head _)
            have gall2 : s.heap.StaysIn G₂₇ := fun b o e => g₂₇ b o (g₂₂ b o (g₁₉ b o (gall b o e)))
            subst hB₁ hQ₁
            subst hQe; exact seq_ret (seq_ret (seq_ret (seq_ret (jqHr hJQ (ret_v (k _ _ _ _ (D₂₈.lo gall2 hs.all.top).hs hta hi))))))
          | false =>
            first | refine if_no rfl ?_ | rw [if_neg (by decide)]
            have hact : act w want ns = .go [] ns := act7 hc1 hc2 hc3 hc4 hc5 hc6
            refine x_nil (seq_next (x_nil (seq_next (x_nil (seq_next (x_nil (seq_next (x_nil (jqH hJQ ?_)))))))))
            refine ⟨_, _, [], nv, na, m6, G₂₇, hact, ?_, q4, q5, q6, q7, .nil, hSn, g₂₇⟩
            rw [List.append_nil]
            exact D₂₇
        · refine hideP fun PH3 hPH3 => ?_
          obtain ⟨p, ns2, pv, nv2, na2, m2, G2, hact, D₂₃, r1, r2, r3, r4, hSp, hSn2, g₂₃⟩ := h₂₃
          subst hPH3
          have hGN' : GN ws k' (i + 1) (st' ++ p) ns2 mm bb := st_go hstep hact
          have hgo := act_go hact
          have hilt : i < wl.length := by
            by_cases hi2 : i = wl.length
            · subst hi2
              rw [List.getElem?_append_right (Nat.le_refl _)] at hwi
              simp at hwi
              exact absurd hwi.symm hgo.2.2.1
            · lia
          refine x_asg ?_
          refine wpAny_BinOp ?_
          refine n_loc D₂₃ r2 ?_
          refine e_int D₂₃ fun s₂₄ t₂₄ D₂₄ => ?_
          refine P.add_int ?_
          refine s_loc (D₂₄.tok _) fun s₂₅ D₂₅ => ?_
          refine x_nil ?_
          subst hB₁
          refine ⟨k', by lia, i + 1, s₂₄.toks, st' ++ p, ns2, sv' ++ pv, nv2, na2, ("at", .int ((i : Int) + 1) s₂₄.toks) :: m2, G2, hGN', hilt, D₂₅, lk_tl r1, lk_hd, lk_tl r3, lk_tl r4, strs_app hSs' hSp, hSn2, ?_, ?_, ?_, ?_, fun b o e => g₂₃ b o (g₂₂ b o (g₁₉ b o (g' b o e)))⟩
          · intro x hx
            rcases List.mem_append.mp hx with hx | hx
            · exact hwa x (by simp [hx])
            · exact hgo.1 x hx
          · rw [List.length_append]; have := hgo.2.1; lia
          · intro _ _ _ _; rw [List.length_append]; have := hgo.2.1; lia
          · have := hgo.2.2.2; lia
end
end Mine
end

section
open PySem PySem.W PyProof.Rows PySem.Calls PySem.Spec
set_option autoImplicit false
namespace Mine
mutual
inductive RepL (h : Heap) : Value → Tr → Prop
  | leaf {w : Str} {t : Tok} : RepL h (.str w t) (.leaf w)
  | node {a : Addr} {vs : List Value} {n : Nat} {l : List Tr} : h.get? a = some (lstOf vs.toArray n) → RepLs h vs l → RepL h (.ref a) (.node l)
inductive RepLs (h : Heap) : List Value → List Tr → Prop
  | nil : RepLs h [] []
  | cons {v : Value} {t : Tr} {vs : List Value} {l : List Tr} : RepL h v t → RepLs h vs l → RepLs h (v :: vs) (t :: l)
end
theorem RepL.mono' {h h' : Heap} {v : Value} {t : Tr} (k : ∀ a vs n, h.get? a = some (lstOf vs n) → h'.get? a = some (lstOf vs n)) (x : RepL h v t) : RepL h' v t := by
  induction x using RepL.rec (motive_2 := fun vs l _ => RepLs h' vs l) with
  | leaf => exact .leaf
  | node e _ ih => exact .node (k _ _ _ e) ih
  | nil => exact .nil
  | cons _ _ i1 i2 => exact .cons i1 i2
theorem RepL.mono {h h' : Heap} {v : Value} {t : Tr} (x : RepL h v t) (k : h.StaysIn h') : RepL h' v t := x.mono' fun _ _ _ e => k _ _ e
theorem RepLs.mono' {h h' : Heap} {vs : List Value} {l : List Tr} (k : ∀ a vs n, h.get? a = some (lstOf vs n) → h'.get? a = some (lstOf vs n)) (x : RepLs h vs l) : RepLs h' vs l := by
  induction l generalizing vs with
  | nil => cases x; exact .nil
  | cons t l ih => cases x with | cons a b => exact .cons (a.mono' k) (ih b)
theorem RepLs.mono {h h' : Heap} {vs : List Value} {l : List Tr} (x : RepLs h vs l) (k : h.StaysIn h') : RepLs h' vs l := x.mono' fun _ _ _ e => k _ _ e
theorem RepLs.snoc {h : Heap} {vs : List Value} {l : List Tr} {v : Value} {t : Tr} (x : RepLs h vs l) (y : RepL h v t) : RepLs h (vs ++ [v]) (l ++ [t]) := by
  induction l generalizing vs with
  | nil => cases x; exact .cons y .nil
  | cons t l ih => cases x with | cons a b => exact .cons a (ih b)
theorem RepLs.len {h : Heap} {vs : List Value} {l : List Tr} (x : RepLs h vs l) : vs.length = l.length := by
  induction l generalizing vs with
  | nil => cases x; rfl
  | cons t l ih => cases x with | cons a b => simp [ih b]
theorem RepLs.at {h : Heap} {vs : List Value} {l : List Tr} (x : RepLs h vs l) : ∀ (i : Nat) (t : Tr), l[i]? = some t → ∃ v, vs[i]? = some v ∧ RepL h v t := by
  induction l generalizing vs with
  | nil => intro i t e; simp at e
  | cons t l ih =>
    cases x with
    | cons a b =>
      intro i u e
      cases i with
      | zero => cases e; exact ⟨_, rfl, a⟩
      | succ i => exact ih b i u (by simpa using e)
theorem RepLs.drop {h : Heap} {vs : List Value} {l : List Tr} (x : RepLs h vs l) : ∀ (k : Nat), RepLs h (vs.drop k) (l.drop k) := by
  induction l generalizing vs with
  | nil => cases x; intro k; simp; exact .nil
  | cons t l ih =>
    cases x with
    | cons a b =>
      intro k
      cases k with
      | zero => exact .cons a b
      | succ k => simpa using ih b k
/-- the pile: top first -/
noncomputable def pstep (st : List (List Tr)) (w : Str) : Option (List (List Tr)) :=
  if w = "(" then some ([] :: st) else if w = ")" then (match st with | a :: b :: r => some ((b ++ [.node a]) :: r) | _ => none) else match st with | a :: r => some ((a ++ [.leaf w]) :: r) | [] => none
noncomputable def pfold : List Str → List (List Tr) → Option (List (List Tr))
  | [], st => some st
  | w :: r, st => (pstep st w).bind (pfold r)
theorem pfold_app : ∀ (a b : List Str) (st : List (List Tr)), pfold (a ++ b) st = (pfold a st).bind (pfold b)
  | [], b, st => rfl
  | w :: a, b, st => by
    show (pstep st w).bind (pfold (a ++ b)) = ((pstep st w).bind (pfold a)).bind (pfold b)
    cases pstep st w with
    | none => rfl
    | some st' => exact pfold_app a b st'
noncomputable def notLst (o : Obj) : Prop := ∀ vs n, o ≠ lstOf vs n
inductive OpR (h : Heap) : List (Addr × List Value) → List (List Tr) → Prop
  | nil : OpR h [] []
  | cons {q : Addr × List Value} {l : List Tr} {r : List (Addr × List Value)} {st : List (List Tr)} : RepLs h q.2 l → OpR h r st → OpR h (q :: r) (l :: st)
theorem OpR.mono {h h' : Heap} {r : List (Addr × List Value)} {st : List (List Tr)} (x : OpR h r st) (k : h.StaysIn h') : OpR h' r st := by
  induction x with
  | nil => exact .nil
  | cons a _ ih => exact .cons (a.mono k) ih
end Mine
end

section
open PySem PySem.W PyProof.Rows PySem.Calls PySem.Spec
set_option autoImplicit false
namespace Mine
theorem warmsl (w : World) (h : Heap) : (hd.heap_39 w.params).In h → PySem.Challenge.rw_rh0003_01.prog = PySem.Challenge.rw_rh0003_01.prog := by
  k_fill
  intro _
  rfl
section
variable {W : Wd} {G : Heap} {L : Addr} {m : List (Str × Value)} {news news' pre post : List (Addr × (Obj → Prop))} {s : Shared} {A : Around} {E : Value → Shared → Prop} {env : Env} {v : Value} {pos : Pos}
  {Q : Value → Shared → Prop} {fs : List Env} {n B : Nat} {l : Addr}
theorem li_last {value slice : Expr} {l : Addr} {vs : List Value} {v : Value} {n : Nat} {u : Tok} (hl : s.heap.get? l = some (lstOf (vs ++ [v]).toArray n)) (h : Q v s)
    (hs : subscripted slice false (.ref l) (.int (-1) u) = operate [.ref l, .int (-1) u] (getItem (.ref l) (.int (-1) u)) := by with_unfolding_all rfl) :
    wpAny (model pw W.w) A (subscriptTail value slice (.ref l) (.int (-1) u)) Q E s :=
  tail_any (isList_of hl).typeIs slot_list_getitem.lookup (wpAny_getItem_list_neg (isList_of hl) (by lia) (by simp; lia) (by lia) (by
    have : ((-1 : Int) + (((vs ++ [v]).toArray.size : Nat) : Int)).toNat = vs.length := by simp; lia
    rw [this]; simp) h) hs
theorem x_appE {o ae : Expr} {p2 p3 p4 : Pos} {rest : List Stmt} {QF : Flow → Shared → Prop} {qn : Str} {sc : Scope} {fa : Addr} {cd : Value} {pl : Sem Bool}
    (h : wpAny (model pw W.w) A (eval o (envOf qn sc L fa cd)) (fun ov s₀ => ∃ l n its, ov = .ref l ∧ s₀.heap.get? l = some (lstOf its n) ∧ wpAny (model pw W.w) A (eval ae (envOf qn sc L fa cd)) (fun v s₁ => ∃ G' m' pre' post' its', Led W G' L m' (pre' ++ (l, isL its') :: post') s₁ ∧ its'.size ≤ sizeLine ∧ ∀ s₂, Led W G' L m' (pre' ++ (l, isL (its'.push v)) :: post') s₂ → wpAny (model pw W.w) A (execs rest (envOf qn sc L fa cd)) QF E s₂) E s₀) E s)
    (he : eval (.Call (.Attribute o "append" p2) [ae] [] p3) (envOf qn sc L fa cd) = (do let ov ← eval o (envOf qn sc L fa cd); standAt p2.atName; let (f, first) ← holding [ov] (getMethod ov "append" pl); callWith p3 f first (backTo p3 (starEach [ae] (envOf qn sc L fa cd))) []) := by with_unfolding_all rfl)
    (hs : starEach [ae] (envOf qn sc L fa cd) = (false, eval ae (envOf qn sc L fa cd)) :: starEach [] (envOf qn sc L fa cd) := by rfl)
    (hw : swapsWith (.Call (.Attribute o "append" p2) [ae] [] p3) none p4.line (envOf qn sc L fa cd) = pure false := by rfl) (hi : interactive (envOf qn sc L fa cd) = false := by rfl) :
    wpAny (model pw W.w) A (execs (.Expr (.Call (.Attribute o "append" p2) [ae] [] p3) p4 :: rest) (envOf qn sc L fa cd)) QF E s := by
  refine x_expr (l_meth (p1 := default) PySem.F.slot_list_append PySem.F.type_list_append (wpAny_mono h (fun ov s₀ h₀ => ?_) fun _ _ z => z) he) hi hw
  refine hideP fun PH1 hPH1 => ?_
  obtain ⟨l, n, its, rfl, e, h₁⟩ := h₀
  subst hPH1
  refine ⟨l, n, its, rfl, e, kb1 (spliced_more (wpAny_mono h₁ (fun v s₁ h₁ => spliced_none ?_) fun _ _ z => z) hs) rfl hs rfl⟩
  refine hideP fun PH2 hPH2 => ?_
  obtain ⟨G', m', pre', post', its', D', hz, hq⟩ := h₁
  subst hPH2
  exact l_append D' hz hq
noncomputable def refs (o : List (Addr × List Value)) : List Value := (o.map fun q => Value.ref q.1).reverse
noncomputable abbrev opn (o : List (Addr × List Value)) : List (Addr × (Obj → Prop)) := o.map fun q => (q.1, isL q.2.toArray)
theorem refs_cons (q : Addr × List Value) (r : List (Addr × List Value)) : refs (q :: r) = refs r ++ [.ref q.1] := by unfold refs; simp
theorem refs_len (o : List (Addr × List Value)) : (refs o).length = o.length := by unfold refs; simp
theorem fmg_piled : nsIn (hd.heap_39 W.w.params) mainGlobals "_law_piled" = some (some (.ref 320)) := by k_is
theorem k320 : keepIn (hd.heap_39 W.w.params) (.ref 320) = true := by k_is
inductive PiledI (W : Wd) (s : Shared) (L I pa lw : Addr) (ws : List Str) (t : Tr) (i : Nat) (s' : Shared) : Prop
  | mk (op : List (Addr × List Value)) (st : List (List Tr)) (mI : List (Str × Value)) (G' : Heap) (_ : Led W G' L mI ((I, isIt "list_iterator" (.ref lw) i) :: (pa, isL (refs op).toArray) :: opn op) s') (_ : OpR G' op st) (_ : pfold (ws.drop i) st = some [[t]]) (_ : lk mI "pile" = some (.ref pa)) (_ : op.length ≤ i + 1) (_ : (∀ q ∈ op, q.2.length ≤ i)) (_ : s.heap.StaysIn G') : PiledI W s L I pa lw ws t i s'
theorem c_piled {lw : Addr} {ws : List Str} {t : Tr} (hs : Hs W G s) (hdp : A.depth + 5 ≤ 990) (hh : A.handled = none) (hS : StrL G lw ws) (hz : ws.length ≤ 1000) (hp : pfold ws [[]] = some [[t]])
    (k : ∀ s' v, Hs W s.heap s' → RepL s'.heap v t → Q v s') :
    wpAny (model pw W.w) A (call (.ref 320) [.ref lw]) Q E s := by
  obtain ⟨vs, nl, hl, hSt⟩ := hS.mono hs.keep
  have hlen : vs.length = ws.length := strs_len hSt
  refine enterC [("words", .ref lw)] (news := []) hs.all (fun _ h => nomatch h) List.nodup_nil (by k_is) (by k_is) (show A.depth < 1000 by lia) rfl rfl rfl rfl rfl (by decide) fun L s₁ D stk hL => ?_
  refine hide fun Qe Ee hQe hEe => ?_
  refine x_asg ?_
  refine List_ ?_
  refine spliced_more ?_
  refine List_ (spliced_none ?_)
  refine l_new D (by size_fits) fun l0 s₂ D₂ => ?_
  refine spliced_none ?_
  refine l_new D₂ (by size_fits) fun pa s₃ D₃ => ?_
  refine s_loc D₃ fun s₄ D₄ => ?_
  refine x_forH fun Q₁ E₁ hQ₁ hE₁ => ?_
  refine n_loc D₄ (lk_tl lk_hd) ?_
  refine it_list D₄ (D₄.at hl) fun I s₅ D₅ _ => ?_
  refine ⟨PiledI W s L I pa lw ws t, ws.length, ?_, ?_, ?_⟩
  · exact ⟨[(l0, [])], [[]], [("pile", .ref pa), ("words", .ref lw)], s.heap, D₅, .cons .nil .nil, by simpa using hp, lk_hd, by simp, fun q hq => by rw [List.mem_singleton.mp hq]; exact Nat.le_refl _, fun _ _ z => z⟩
  · rintro s₆ ⟨op, st, mI, G', D₆, hO, hf, l1, ho1, ho2, g'⟩
    refine end_list hh D₆ (D₆.at (g' _ _ hl)) (by simp; lia) fun s₇ D₇ _ => ⟨rfl, ?_⟩
    rw [List.drop_of_length_le (Nat.le_refl _)] at hf
    cases hf
    cases hO with
    | @cons q _ _ _ hR hO =>
    cases hO
    obtain ⟨l0', v0⟩ := q
    cases hR with
    | @cons v _ _ _ hv hR =>
    cases hR
    obtain ⟨kp, hpa⟩ := isL_get (D₇.get (.head _))
    obtain ⟨k0, hl0⟩ := isL_get (D₇.nw (l0', isL [v].toArray) (.tail _ (.head _))).1
    refine x_ret ?_
    refine Subscript_ ?_
    refine Subscript_ ?_
    refine n_loc D₇ l1 ?_
    refine e_int D₇ fun s₈ t₈ D₈ => ?_
    obtain ⟨kp, hpa⟩ := isL_get (D₈.get (.head _))
    refine li_get hpa (k := 0) rfl (by decide) rfl ?_
    refine e_int D₈ fun s₉ t₉ D₉ => ?_
    obtain ⟨k0, hl0⟩ := isL_get (D₉.nw (l0', isL [v].toArray) (.tail _ (.head _))).1
    refine li_get hl0 (k := 0) rfl (by decide) rfl ?_
    subst hQ₁
    subst hQe; exact ret_v (k _ _ ((D₉.lo g' hs.all.top).hs) (hv.mono D₉.hs.keep))
  · rintro B₁ T₁ hB₁ hT₁ i s₆ hi ⟨op, st, mI, G', D₆, hO, hf, l1, ho1, ho2, g'⟩
    obtain ⟨w, hw⟩ : ∃ w, ws[i]? = some w := ⟨_, List.getElem?_eq_getElem hi⟩
    obtain ⟨tw, hvw⟩ := (strs_at hSt).2 i w hw
    rw [List.drop_eq_getElem_cons hi, show ws[i] = w from by rw [List.getElem?_eq_getElem hi] at hw; exact Option.some.inj hw] at hf
    obtain ⟨st', hst', hf'⟩ := Option.bind_eq_some_iff.mp hf
    refine nx_list D₆ (D₆.at (g' _ _ hl)) (by simpa using hvw) fun s₇ D₇ _ => ⟨_, rfl, wpAny_of_eq (a := ()) rfl (wpAny_assign_Name (s_loc D₇ fun s₈ D₈ => ?_))⟩
    have hrl : (refs op).length = op.length := by unfold refs; simp
    refine x_if ?_
    refine t_eq D₈ lk_hd fun s₉ D₉ => ?_
    by_cases hw1 : w = "("
    · first | refine if_yes (show (w == Str.ofString "(") = true from (by simpa using hw1)) ?_ | rw [show (w == Str.ofString "(") = true from by simpa using hw1, if_pos rfl]
      unfold pstep at hst'
      rw [if_pos hw1] at hst'
      cases hst'
      refine x_appE ?_
      refine n_loc D₉ (lk_tl l1) ?_
      obtain ⟨kp, hpa⟩ := isL_get (D₉.get (.tail _ (.head _)))
      refine ⟨pa, kp, _, rfl, hpa, ?_⟩
      refine List_ (spliced_none ?_)
      refine l_new D₉ (by size_fits) fun a s₁₀ D₁₀ => ?_
      refine ⟨G', _, [(a, isL #[]), (I, isIt "list_iterator" (.ref lw) (i + 1))], opn op, _, D₁₀, by rw [sizeLine_eq]; simp; lia, fun s₁₁ D₁₁ => x_nil (seq_next (x_nil ?_))⟩
      have D₁₂ := D₁₁.perm (news' := (I, isIt "list_iterator" (.ref lw) (i + 1)) :: (pa, isL ((refs op).toArray.push (.ref a))) :: (a, isL #[]) :: opn op) (.trans (.swap _ _ _) (.cons _ (.swap _ _ _)))
      subst hB₁
      refine ⟨(a, []) :: op, [] :: st, ("word", .str w tw) :: mI, G', ?_, .cons .nil hO, hf', lk_tl l1, by simp; lia, ?_, g'⟩
      · rw [refs_cons, show (refs op ++ [Value.ref a]).toArray = (refs op).toArray.push (.ref a) from by simp]
        exact D₁₂
      · intro q hq
        rcases List.mem_cons.mp hq with rfl | hq
        · simp
        · have := ho2 q hq; lia
    · first | refine if_no (show (w == Str.ofString "(") = false from (by simpa using hw1)) ?_ | rw [show (w == Str.ofString "(") = false from by simpa using hw1, if_neg (by decide)]
      unfold pstep at hst'
      rw [if_neg hw1] at hst'
      refine x_if ?_
      refine t_eq D₉ lk_hd fun s₁₀ D₁₀ => ?_
      by_cases hw2 : w = ")"
      · first | refine if_yes (show (w == Str.ofString ")") = true from (by simpa using hw2)) ?_ | rw [show (w == Str.ofString ")") = true from by simpa using hw2, if_pos rfl]
        rw [if_pos hw2] at hst'
        cases hO with
        | nil => cases hst'
        | @cons q0 t0 r0 st0 hR0 hO =>
        cases hO with
        | nil => cases hst'
        | @cons q1 t1 r1 st1 hR1 hO =>
        cases hst'
        obtain ⟨a0, v0⟩ := q0
        obtain ⟨a1, v1⟩ := q1
        refine x_asg ?_
        refine l_meth (p1 := default) PySem.F.slot_list_pop PySem.F.type_list_pop ?_
        refine n_loc D₁₀ (lk_tl l1) ?_
        obtain ⟨kp, hpa⟩ := isL_get (D₁₀.get (.tail _ (.head _)))
        refine ⟨pa, kp, _, rfl, hpa, ?_⟩
        rw [refs_cons] at D₁₀
        refine l_pop (pre := [(I, isIt "list_iterator" (.ref lw) (i + 1))]) D₁₀ (by rw [refs_len]; simp only [List.length_cons] at ho1 ⊢; lia) fun s₁₁ D₁₁ => ?_
        refine s_loc D₁₁ fun s₁₂ D₁₂ => ?_
        rw [refs_cons] at D₁₂
        refine x_appE ?_
        refine Subscript_ ?_
        refine n_loc D₁₂ (lk_tl (lk_tl l1)) ?_
        refine PyProof.Rows.lit_neg _ fun v tk hv => ?_
        obtain ⟨tn, rfl⟩ : ∃ tn, v = .int (-1) tn := PyProof.Rows.IsDatum.int hv
        have D₁₃ := D₁₂.tok tk
        obtain ⟨kp2, hpa2⟩ := isL_get (D₁₃.get (.tail _ (.head _)))
        refine li_last hpa2 ?_
        obtain ⟨k1, hl1⟩ := isL_get (D₁₃.nw (a1, isL v1.toArray) (by simp [opn])).1
        refine ⟨a1, k1, _, rfl, hl1, ?_⟩
        refine n_loc D₁₃ lk_hd ?_
        have hv1 : v1.length ≤ i := ho2 (a1, v1) (.tail _ (.head _))
        refine ⟨G', _, [(I, isIt "list_iterator" (.ref lw) (i + 1)), (pa, isL (refs r1 ++ [Value.ref a1]).toArray), (a0, isL v0.toArray)], opn r1, _, D₁₃, by rw [sizeLine_eq]; simp; lia, fun s₁₄ D₁₄ => x_nil (seq_next (x_nil (seq_next (x_nil ?_))))⟩
        have D₁₅ := D₁₄.perm (news' := (a0, isL v0.toArray) :: (I, isIt "list_iterator" (.ref lw) (i + 1)) :: (pa, isL (refs r1 ++ [Value.ref a1]).toArray) :: (a1, isL (v1.toArray.push (.ref a0))) :: opn r1) (.trans (.cons _ (.swap _ _ _)) (.swap _ _ _))
        obtain ⟨k0, hl0⟩ := isL_get (D₁₅.get (.head _))
        obtain ⟨G₂, D₁₆, g₂, hg0⟩ := gr_of D₁₅ hl0
        subst hB₁
        refine ⟨(a1, v1 ++ [Value.ref a0]) :: r1, _, ("done", .ref a0) :: ("word", .str w tw) :: mI, G₂, ?_, .cons ((hR1.mono g₂).snoc (.node hg0 (hR0.mono g₂))) (hO.mono g₂), hf', lk_tl (lk_tl l1), by simp only [List.length_cons] at ho1 ⊢; lia, ?_, fun b o e => g₂ b o (g' b o e)⟩
        · rw [refs_cons]
          show Led W G₂ L _ ((I, isIt "list_iterator" (.ref lw) (i + 1)) :: (pa, isL (refs r1 ++ [Value.ref a1]).toArray) :: (a1, isL (v1 ++ [Value.ref a0]).toArray) :: opn r1) s₁₄
          rw [show (v1 ++ [Value.ref a0]).toArray = v1.toArray.push (.ref a0) from by simp]
          exact D₁₆
        · intro q hq
          rcases List.mem_cons.mp hq with rfl | hq
          · simp; exact hv1
          · have := ho2 q (.tail _ (.tail _ hq)); lia
      · first | refine if_no (show (w == Str.ofString ")") = false from (by simpa using hw2)) ?_ | rw [show (w == Str.ofString ")") = false from by simpa using hw2, if_neg (by decide)]
        rw [if_neg hw2] at hst'
        cases hO with
        | nil => cases hst'
        | @cons q0 t0 r0 st0 hR0 hO =>
        cases hst'
        obtain ⟨a0, v0⟩ := q0
        refine x_appE ?_
        refine Subscript_ ?_
        refine n_loc D₁₀ (lk_tl l1) ?_
        refine PyProof.Rows.lit_neg _ fun v tk hv => ?_
        obtain ⟨tn, rfl⟩ : ∃ tn, v = .int (-1) tn := PyProof.Rows.IsDatum.int hv
        have D₁₃ := D₁₀.tok tk
        rw [refs_cons] at D₁₃
        obtain ⟨kp2, hpa2⟩ := isL_get (D₁₃.get (.tail _ (.head _)))
        refine li_last hpa2 ?_
        obtain ⟨k1, hl1⟩ := isL_get (D₁₃.nw (a0, isL v0.toArray) (by simp [opn])).1
        refine ⟨a0, k1, _, rfl, hl1, ?_⟩
        refine n_loc D₁₃ lk_hd ?_
        have hv0 : v0.length ≤ i := ho2 (a0, v0) (.head _)
        refine ⟨G', _, [(I, isIt "list_iterator" (.ref lw) (i + 1)), (pa, isL (refs r0 ++ [Value.ref a0]).toArray)], opn r0, _, D₁₃, by rw [sizeLine_eq]; simp; lia, fun s₁₄ D₁₄ => x_nil (seq_next (x_nil (seq_next (x_nil ?_))))⟩
        subst hB₁
        refine ⟨(a0, v0 ++ [Value.str w tw]) :: r0, _, ("word", .str w tw) :: mI, G', ?_, .cons (hR0.snoc .leaf) hO, hf', lk_tl l1, by simp only [List.length_cons] at ho1 ⊢; lia, ?_, g'⟩
        · rw [refs_cons]
          show Led W G' L _ ((I, isIt "list_iterator" (.ref lw) (i + 1)) :: (pa, isL (refs r0 ++ [Value.ref a0]).toArray) :: (a0, isL (v0 ++ [Value.str w tw]).toArray) :: opn r0) s₁₄
          rw [show (v0 ++ [Value.str w tw]).toArray = v0.toArray.push (.str w tw) from by simp]
          exact D₁₄
        · intro q hq
          rcases List.mem_cons.mp hq with rfl | hq
          · simp; exact hv0
          · have := ho2 q (.tail _ hq); lia
end
end Mine
end

section
open PySem PySem.W PyProof.Rows PySem.Calls PySem.Spec
set_option autoImplicit false
namespace Mine
theorem warmsm (w : World) (h : Heap) : (hd.heap_39 w.params).In h → PySem.Challenge.rw_rh0003_01.prog = PySem.Challenge.rw_rh0003_01.prog := by
  k_fill
  intro _
  rfl
section
variable {W : Wd} {s : Shared} {A : Around} {E : Value → Shared → Prop} {env : Env}
end
section
variable {W : Wd} {G : Heap} {L : Addr} {m : List (Str × Value)} {news news' pre post : List (Addr × (Obj → Prop))} {s : Shared} {A : Around} {E : Value → Shared → Prop} {env : Env} {v : Value} {pos : Pos}
  {Q : Value → Shared → Prop} {fs : List Env} {n B : Nat} {l : Addr}
theorem n_glbE {x : Str} {px : Pos} (D : Led W G L m news s) (hv : W.mg x = some v) (h : Q v s) (hg : env.globals = mainGlobals := by rfl)
    (hk : env.scope.kind = .function := by rfl) (hl : env.kindOf x = some .globalImplicit := by rfl) (hd : (x == ("__debug__" : Str)) = false := by decide) :
    wpAny (model pw W.w) A (eval (.Name x px) env) Q E s := Calls.Name_function_global hk hl (loadGlobal_global (env := env) (by rw [hg]; exact D.hs.g) hv h) hd
inductive MapI (W : Wd) (C I B acc L : Addr) (oL : Obj) (news : List (Addr × (Obj → Prop))) (ts : List Tr) (G : Heap) (i : Nat) (s' : Shared) : Prop
  | mk (vals : List Value) (mC : List (Str × Value)) (G₃ : Heap) (_ : Led W G₃ C mC ((I, isIt "list_iterator" (.ref B) i) :: (acc, isL vals.toArray) :: (L, (· = oL)) :: news) s') (_ : Reps G₃ vals (ts.take i)) (_ : G.StaysIn G₃) : MapI W C I B acc L oL news ts G i s'
/-- [f(x) for x in a list] -/
theorem map_comp {fn x : Str} {f : Addr} {iter : Expr} {p1 p2 p3 p4 : Pos} {scope : Scope} (hgf : nsIn (hd.heap_39 W.w.params) mainGlobals fn = some (some (.ref f))) (hkf : keepIn (hd.heap_39 W.w.params) (.ref f) = true) (hh : A.handled = none)
    (h : wpAny (model pw W.w) A (eval iter env) (fun xv s₁ => ∃ (G : Heap) (L : Addr) (m : List (Str × Value)) (news : List (Addr × (Obj → Prop))) (B : Addr) (kB : Nat) (vs : List Value) (ts : List Tr), xv = .ref B ∧ Led W G L m news s₁ ∧ (∀ p ∈ news, ∀ o, p.2 o → notTup o) ∧ G.get? B = some (lstOf (vs : List Value).toArray kB) ∧ vs.length = ts.length ∧ vs.length ≤ 10000 ∧
      (∀ (i : Nat) (v : Value) (t : Tr), vs[i]? = some v → ts[i]? = some t → ∀ G₂ s₂ E₂ Q₂, Hs W G₂ s₂ → G.StaysIn G₂ → (∀ s₃ v₃, Hs W s₂.heap s₃ → Rep s₃.heap v₃ t → Q₂ v₃ s₃) → wpAny (model pw W.w) A (call (.ref f) [v]) Q₂ E₂ s₂) ∧
      (∀ acc s' vals, Led W G L m ((acc, isL (vals : List Value).toArray) :: news) s' → Reps s'.heap vals ts → Q (.ref acc) s')) E s)
    (hfree : ∀ x ∈ scope.names, x.2 ≠ .free := by decide) (hcell : ∀ x ∈ scope.names, x.2 ≠ .cell := by decide) (hkind : scope.kind = .function := by rfl) (hnames : ∀ x ∈ scope.names, x.2 = .local → scope.names.lookup x.1 = some .local := by decide)
    (hs : ∀ x, foldedSetIterable iter env x = pure x := by intro _; rfl) (hg : env.globals = mainGlobals := by rfl)
    (hl : ∀ C, (cEnv scope C env).kindOf fn = some .globalImplicit := by intro _; rfl) (hx : ∀ C, (cEnv scope C env).kindOf x = some .local := by intro _; rfl) (hdf : (fn == ("__debug__" : Str)) = false := by decide) (hdx : (x == ("__debug__" : Str)) = false := by decide)
    (hse : ∀ C, starEach [.Name x p2] (cEnv scope C env) = (false, eval (.Name x p2) (cEnv scope C env)) :: starEach [] (cEnv scope C env) := by intro _; rfl)
    (hce : ∀ C, eval (.Call (.Name fn p1) [.Name x p2] [] p3) (cEnv scope C env) = (do let fv ← eval (.Name fn p1) (cEnv scope C env); callWith p3 fv [] (backTo p3 (starEach [.Name x p2] (cEnv scope C env))) []) := by intro _; with_unfolding_all rfl) :
    wpAny (model pw W.w) A (eval (.ListComp (.Call (.Name fn p1) [.Name x p2] [] p3) [⟨.Name x p4, iter, [], 0⟩] scope pos) env) Q E s := by
  refine e_compG (wpAny_mono h (fun xv s₁ h₁ => ?_) fun _ _ z => z) hfree hcell hkind hnames hs
  refine hideP fun PH1 hPH1 => ?_
  obtain ⟨G, L, m, news, B, kB, vs, ts, rfl, D, hn, hB, hlen, hz, spec, fin⟩ := h₁
  subst hPH1
  refine it_list D (D.at hB) fun I s₂ D₂ _ => ?_
  refine ⟨G, L, m, news, I, _, rfl, D₂, fun A' s' Q' E' hI h => it_self hI h, fun acc C oL s₄ k₄ hacc D₄ => ?_⟩
  have hoL : notTup oL := by
    obtain ⟨m₀, ⟨o, es, ep, ho, hd, _⟩, _⟩ := D₂.ns
    obtain ⟨o', e', rfl⟩ := D₄.get (p := (L, (· = oL))) (.tail _ (.tail _ (.head _)))
    rw [k₄ _ _ ho] at e'; cases e'
    intro vs n q; rw [q] at hd; cases hd
  refine c_loopH (MapI W C I B acc L oL news ts G) vs.length ?_ ?_ ?_
  · exact ⟨[], [], G, D₄, by rw [List.take_zero]; exact .nil, fun _ _ z => z⟩
  · rintro R₀ N₀ hR₀ hN₀ s₅ ⟨vals, mC, G₃, D₅, rs, g₃⟩
    refine end_list hh D₅ (D₅.at (g₃ _ _ hB)) (by simp) fun s₆ D₆ _ => ⟨rfl, ?_⟩
    subst hR₀
    refine ⟨rfl, vals.toArray, mC, D₆.lo g₃ D.hs.top, fun s₇ k₇ D₇ => fin _ _ vals D₇ ?_⟩
    rw [List.take_of_length_le (by lia)] at rs
    refine (rs.mono D₆.hs.keep).mono' fun a vs n e => k₇ a _ (fun z => ?_) e
    obtain ⟨m₀, ⟨o, es, ep, ho, hd, _⟩, _⟩ := D₆.ns
    rw [← z, e] at ho; cases ho; cases hd
  · rintro B₃ N₃ hB₃ hN₃ i s₅ hi ⟨vals, mC, G₃, D₅, rs, g₃⟩
    obtain ⟨v, hv⟩ : ∃ v, vs[i]? = some v := ⟨_, List.getElem?_eq_getElem hi⟩
    obtain ⟨t, ht⟩ : ∃ t, ts[i]? = some t := ⟨_, List.getElem?_eq_getElem (by lia)⟩
    refine nx_list D₅ (D₅.at (g₃ _ _ hB)) (by simpa using hv) fun s₆ D₆ _ => ⟨_, rfl, a_locE D₆ (fun s₇ D₇ => ?_) rfl hkind (hx _)⟩
    refine no_tests ?_
    rw [if_pos rfl, hce]
    refine wpAny_bind ?_
    refine n_glbE D₇ (mg_some D.hs.st hgf) ?_ hg hkind (hl _) hdf
    refine callWith_K D₇.hs.X hkf (spliced_more (nmE D₇ lk_hd ?_ rfl hkind (hx _) hdx) (hse _)) (hse _) rfl
    refine spliced_none ⟨D₇.hs.X, ?_⟩
    refine spec i v t hv ht _ _ _ _ D₇.hs g₃ fun s₈ v₈ H₈ hv₈ => ?_
    have D₈ := D₇.back0 H₈
    have nt : ∀ p ∈ ((I, isIt "list_iterator" (.ref B) (i + 1)) :: (acc, isL vals.toArray) :: (L, (· = oL)) :: news : List (Addr × (Obj → Prop))), ∀ o, p.2 o → notTup o := by
      intro p hp o ho
      rcases List.mem_cons.mp hp with rfl | hp
      · intro vs n z
        have h1 := ho.1
        rw [z] at h1
        exact absurd h1 (show (Value.type "tuple" : Value) ≠ .type "list_iterator" from by decide)
      rcases List.mem_cons.mp hp with rfl | hp
      · exact isL_nt o ho
      rcases List.mem_cons.mp hp with rfl | hp
      · rw [show o = oL from ho]; exact hoL
      · exact hn p hp o ho
    have rp := D₈.rep nt hv₈
    have hvl : vals.length ≤ 10000 := by rw [rs.len, List.length_take]; lia
    refine l_append (pre := [(I, isIt "list_iterator" (.ref B) (i + 1))]) (its := vals.toArray) D₈.anew.1 (by rw [sizeLine_eq, List.size_toArray]; lia) fun s₉ D₉ => ?_
    subst hB₃
    refine ⟨vals ++ [v₈], _, _, by rw [← List.push_toArray]; exact D₉, ?_, fun b o z => D₈.anew.2 b o (g₃ b o z)⟩
    rw [List.take_add_one, ht]
    exact (rs.mono D₈.anew.2).snoc rp
end
end Mine
end

section
open PySem PySem.W PyProof.Rows PySem.Calls PySem.Spec
set_option autoImplicit false
namespace Mine
theorem warmsn (w : World) (h : Heap) : (hd.heap_39 w.params).In h → PySem.Challenge.rw_rh0003_01.prog = PySem.Challenge.rw_rh0003_01.prog := by
  k_fill
  intro _
  rfl
inductive TermOf : Nat → Tr → Tr → Prop
  | leaf {k : Nat} {w : Str} : TermOf k (.leaf w) (.node [.leaf w])
  | node {k : Nat} {f : Str} {kids ts : List Tr} : kids ≠ [] → kids.length ≤ 1000 → kids.length = ts.length → (∀ (i : Nat) (r t : Tr), kids[i]? = some r → ts[i]? = some t → TermOf k r t) → TermOf (k + 1) (.node (.leaf f :: kids)) (.node (.leaf f :: ts))
section
variable {W : Wd} {G : Heap} {L : Addr} {m : List (Str × Value)} {news news' pre post : List (Addr × (Obj → Prop))} {s : Shared} {A : Around} {E : Value → Shared → Prop} {env : Env} {v : Value} {pos : Pos}
  {Q : Value → Shared → Prop} {fs : List Env} {n B : Nat} {l : Addr}
theorem fmg_isi : nsIn (hd.heap_39 W.w.params) mainGlobals "isinstance" = some none := by k_is
theorem fmg_str : nsIn (hd.heap_39 W.w.params) mainGlobals "str" = some none := by k_is
theorem fmg_termof : nsIn (hd.heap_39 W.w.params) mainGlobals "_law_term_of" = some (some (.ref 325)) := by k_is
theorem k325 : keepIn (hd.heap_39 W.w.params) (.ref 325) = true := by k_is
/-- a list in a slice's place, in the ground -/
theorem sl_gr {value slice : Expr} {l sl : Addr} {vs : List Value} {k a : Nat} {u : Tok} (D : Led W G L m news s) (hl : s.heap.get? l = some (lstOf vs.toArray k)) (hs : s.heap.IsSliceOf sl (.int (a : Int) u) .none .none) (ha : a ≤ vs.length) (hz : vs.length ≤ 100000)
    (h : ∀ b s' G' k', Led W G' L m news s' → G.StaysIn G' → G'.get? b = some (lstOf (vs.drop a).toArray k') → Q (.ref b) s')
    (he : subscripted slice false (.ref l) (.ref sl) = operate [.ref sl, .ref l] (getItem (.ref l) (.ref sl)) := by with_unfolding_all rfl) :
    wpAny (model pw W.w) A (subscriptTail value slice (.ref l) (.ref sl)) Q E s := by
  refine li_slice D hl hs (.int _ _) .none (by rw [List.size_toArray, sizeLine_eq]; lia) (fun b s' D' => ?_) he
  rw [from_slice ha] at D'
  obtain ⟨k', e⟩ := isL_get (D'.get (.head _))
  obtain ⟨G', D₂, g, e'⟩ := gr_of D' e
  exact h _ _ _ _ D₂ g e'
theorem c_termof : ∀ (k : Nat) (raw t : Tr), TermOf k raw t → ∀ (G : Heap) (s : Shared) (A : Around) (E Q : Value → Shared → Prop) (v : Value), Hs W G s → A.depth + k + 5 ≤ 990 → A.handled = none → RepL G v raw →
    (∀ s' v', Hs W s.heap s' → Rep s'.heap v' t → Q v' s') → wpAny (model pw W.w) A (call (.ref 325) [v]) Q E s := by
  intro k
  induction k using Nat.strongRecOn with
  | _ k ih =>
  intro raw t hT G s A E Q v hs hdp hh hR kk
  have hR := hR.mono hs.keep
  refine enterC [("raw", v)] (news := []) hs.all (fun _ h => nomatch h) List.nodup_nil (by k_is) (by k_is) (show A.depth < 1000 by lia) rfl rfl rfl rfl rfl (by decide) fun L s₁ D stk hL => ?_
  refine x_ret ?_
  refine IfExp_ ?_
  refine it_call ?_
  refine Call_ ?_
  refine n_blt D (mg_none hs.st fmg_isi) rfl (kb1 (spliced_more ?_))
  refine n_loc D lk_hd ?_
  refine spliced_more ?_
  refine n_blt D (mg_none hs.st fmg_str) rfl ?_
  refine spliced_none ?_
  cases hT with
  | @leaf k w =>
    cases hR
    refine IsiPair.str_str ?_
    refine wpAny_truthy_bool ?_
    first | refine if_yes rfl ?_ | rw [if_pos rfl]
    refine Tuple_ ?_
    refine spliced_more ?_
    refine n_loc D lk_hd ?_
    refine spliced_none ?_
    refine t_new D (by size_fits) fun a s₂ D₂ => ?_
    obtain ⟨_, ha, rfl⟩ := D₂.get (.head _)
    exact ret_v (kk _ _ D₂.hs (.node ha (.cons .leaf .nil)))
  | @node k f kids ts hne hz hlen hkids =>
    cases hR with
    | @node a vs na _ hla hRs =>
    cases hRs with
    | @cons v0 _ vr _ hv0 hvr =>
    cases hv0 with
    | @leaf _ t0 =>
    have hvl := hvr.len
    refine IsiPair.list_str (D.at hla) rfl ?_
    refine wpAny_truthy_bool ?_
    first | refine if_no rfl ?_ | rw [if_neg (by decide)]
    have D₂ := D.tok (s₁.toks + 1)
    refine wpAny_BinOp ?_
    refine Tuple_ ?_
    refine spliced_more ?_
    refine Subscript_ ?_
    refine n_loc D₂ lk_hd ?_
    refine e_int D₂ fun s₃ t₃ D₃ => ?_
    refine li_get (D₃.at hla) (k := 0) (v := .str f t0) rfl (by decide) (by simp) ?_
    refine spliced_none ?_
    refine t_gr D₃ (by size_fits) fun ta s₄ G₄ D₄ g₄ hta => ?_
    refine Call_ ?_
    refine n_blt D₄ (mg_none hs.st fmg_tuple) rfl (kb1 (spliced_more ?_))
    refine map_comp fmg_termof k325 hh ?_
    refine Subscript_ ?_
    refine n_loc D₄ lk_hd ?_
    refine wpAny_Slice (ep_some ?_)
    refine e_int D₄ fun s₅ t₅ D₅ => ?_
    refine ep_none (ep_none ?_)
    refine sl_gr (a := 1) (D₅.pushed _ rfl) ((D₅.pushed _ rfl).at (g₄ _ _ hla)) ⟨_, Heap.get?_push_size _ rfl, rfl, rfl⟩ (by simp) (by simp; lia) fun b s₆ G₆ k₆ D₆ g₆ hb => ?_
    refine ⟨G₆, L, _, [], b, k₆, vr, ts, rfl, D₆, (fun _ h => nomatch h), hb, by lia, by lia, ?_, ?_⟩
    · intro i v t hv ht G₂ s₂ E₂ Q₂ H₂ g₂ k₂
      obtain ⟨r, hr⟩ : ∃ r, kids[i]? = some r := ⟨_, List.getElem?_eq_getElem (by rw [← hvl]; exact (List.getElem?_eq_some_iff.mp hv).1)⟩
      obtain ⟨v', hv', hR'⟩ := hvr.at i r hr
      rw [hv] at hv'; cases hv'
      exact ih k (Nat.lt_succ_self _) r t (hkids i r t hr ht) G₂ s₂ _ E₂ Q₂ v H₂ (show A.depth + 1 + k + 5 ≤ 990 by lia) hh (hR'.mono fun b o e => g₂ b o (g₆ b o (g₄ b o e))) k₂
    · intro acc s₇ vals D₇ hrs
      obtain ⟨ka, hacc⟩ := isL_get (D₇.get (.head _))
      have hvals : vals.length = ts.length := hrs.len
      refine spliced_none ?_
      refine call_tuple_list (isList_of hacc) (fun h' k' => ?_) (by rw [sizeLine_eq, List.size_toArray]; lia)
      have D₈ := (D₇.kept (s' := { s₇ with heap := h' }) k').push (tupOf vals 0) (· = tupOf vals 0) rfl rfl
      obtain ⟨_, ha, rfl⟩ := D₈.get (.head _)
      have hne2 : ¬ (vals.toArray.isEmpty = true) := by
        have : kids.length ≠ 0 := fun z => hne (List.eq_nil_of_length_eq_zero z)
        simp
        intro z; subst z; simp at hvals; lia
      refine PySem.P.add_tuple (D₈.at (g₆ _ _ hta)) ha (by simp) hne2 ?_ (by rw [sizeLine_eq]; simp; lia)
      have D₉ := D₈.push (tupOf (.str f t0 :: vals) 0) (· = tupOf (.str f t0 :: vals) 0) rfl rfl
      obtain ⟨_, hr9, rfl⟩ := D₉.get (.head _)
      have e1 : ({ cls := .type "tuple", data := .seq ([Value.str f t0].toArray ++ vals.toArray) } : Obj) = tupOf (.str f t0 :: vals) 0 := by simp
      rw [e1]
      refine ret_v (kk _ _ (D₉.lo (fun b o e => g₆ b o (g₄ b o e)) hs.all.top).hs (.node hr9 (.cons .leaf ?_)))
      exact (hrs.mono k').mono fun b o e => Heap.get?_push_of_some _ (Heap.get?_push_of_some _ e)
end
end Mine
end

section
open PySem PySem.W PyProof.Rows PySem.Calls PySem.Spec
set_option autoImplicit false
namespace Mine
section
variable {prog : Program} {w : World} {A : Around} {E : Value → Shared → Prop} {s : Shared}
theorem sort_small {a : Addr} {vs : List Value} {n : Nat} {P : PySem.Fin → Shared → Prop} (ho : s.heap.get? a = some (seqObj "list" vs.toArray n)) (h2 : vs.length < 2)
    (h : P (.done (.ret .none)) { s with heap := sortedHeap s.heap a vs ((pairsOf vs).map (·.2)) }) :
    wpAny (model prog w) A (Builtin.«list.sort» ⟨[.ref a], []⟩) P E s := by
  rw [list_sort_plain]
  have ha : a < s.heap.objs.size := Heap.lt_size ho
  refine wpAny_bind (listItems_at ho rfl ?_)
  refine wpAny_bind (listUpdate_at ho rfl ?_ (by rw [List.size_toArray, sizeLine_eq]; lia) (Nat.zero_le _))
  obtain ⟨e1, ho1⟩ : ∃ e1, (s.heap.update a (Obj.mapSeq fun _ => #[])).get? a = some (seqObj "list" #[] e1) := ⟨_, get?_update_seq ho (fun _ => #[])⟩
  refine wpAny_bind (seqEpoch_at ho1 rfl ?_)
  refine wpAny_bind (wpAny_newTuple ?_ (by show vs.length ≤ _; rw [sizeLine_eq]; lia))
  refine wpAny_bind (wpAny_newList ?_ (Nat.zero_le _))
  refine wpAny_holding ?_
  have ho6 : (((s.heap.update a (Obj.mapSeq fun _ => #[])).push (seqObj "tuple" vs.toArray 0)).push (seqObj "list" #[] 0)).get? a = some (seqObj "list" #[] e1) := by
    rw [Heap.get?_push_ne _ _ _ (by rw [size_push', Heap.size_update]; exact Nat.ne_of_lt (Nat.lt_succ_of_lt ha)), Heap.get?_push_ne _ _ _ (by rw [Heap.size_update]; exact Nat.ne_of_lt ha)]
    exact ho1
  show wpAny (model prog w) A _ P E { s with heap := ((s.heap.update a (Obj.mapSeq fun _ => #[])).push (seqObj "tuple" vs.toArray 0)).push (seqObj "list" #[] 0) }
  dsimp only
  have hsz : vs.toArray.size < 2 := by rw [List.size_toArray]; exact h2
  rw [if_pos hsz, if_pos hsz]
  refine wpAny_bind (wpAny_pure ?_)
  rw [StateT.run_pure]
  refine wpAny_bind (wpAny_pure ?_)
  dsimp only
  refine wpAny_bind (seqEpoch_at ho6 rfl ?_)
  refine wpAny_bind (listUpdate_at ho6 rfl ?_ (Nat.zero_le _) (by rw [Array.size_map]; show (pairsOf vs).size ≤ _; rw [pairsOf_size, sizeLine_eq]; lia))
  simp only [bne_self_eq_false, Bool.false_eq_true, if_false]
  exact wpAny_pure h
theorem sorted_small {l : Addr} {vs : List Value} {Q : Value → Shared → Prop} (hl : s.heap.IsList l vs.toArray) (h2 : vs.length < 2)
    (h : Q (.ref (s.heap.objs.size + 1)) { s with heap := sortedAll s.heap vs ((pairsOf vs).map (·.2)) }) :
    wpAny (model prog w) A (call (.builtin "sorted") [.ref l]) Q E s := by
  refine Calls.call_function_entry kind_sorted plain_sorted entry_sorted (args_sorted1 _) ?_
  unfold Builtin.«sorted»
  refine wpAny_bind (m := checkCount "sorted" 1 1 _) (wpAny_pure ?_)
  refine wpAny_bind (collect_list hl ?_ (by rw [sizeLine_eq]; lia))
  refine wpAny_bind (wpAny_newList ?_ (by show vs.length ≤ _; rw [sizeLine_eq]; lia))
  have hsz : ((s.heap.push (seqObj "list" #[] 0)).update s.heap.objs.size (Obj.mapSeq (· ++ vs.toArray))).objs.size = s.heap.objs.size + 1 := by
    rw [Heap.size_update, size_push']
  have hoL : (((s.heap.push (seqObj "list" #[] 0)).update s.heap.objs.size (Obj.mapSeq (· ++ vs.toArray))).push (seqObj "list" vs.toArray 0)).get? (s.heap.objs.size + 1) = some (seqObj "list" vs.toArray 0) := by
    rw [← hsz]; exact Heap.get?_push_size _ rfl
  show wpAny _ _ _ _ _ { s with heap := ((s.heap.push (seqObj "list" #[] 0)).update s.heap.objs.size (Obj.mapSeq (· ++ vs.toArray))).push (seqObj "list" vs.toArray 0) }
  rw [hsz]
  refine wpAny_bind (wpAny_holding (wpAny_call_entry slot_list_sort ⟨_, hoL, rfl⟩ entry_list_sort (sort_small hoL h2 ⟨_, rfl, ?_⟩) (args_list_sort _)))
  exact wpAny_pure ⟨_, rfl, h⟩
theorem kas_sort2 : kas_sort 2 = .ask 1 0 (fun c => if c = true then .ret #[1, 0] else .ret #[0, 1]) := by
  show KasT.ask _ _ _ = KasT.ask _ _ _
  congr 1
  funext c
  cases c
  · with_unfolding_all rfl
  · with_unfolding_all rfl
/-- two tuples with other strs ahead -/
theorem ask2 {a1 a2 : Addr} {k1 k2 : Str} {t1 t2 : Tok} {u1 u2 : Value} {n1 n2 : Nat} {Q : Array Nat → Shared → Prop} (h1 : s.heap.get? a1 = some (tupOf [.str k1 t1, u1] n1)) (h2 : s.heap.get? a2 = some (tupOf [.str k2 t2, u2] n2)) (hne : k2 ≠ k1)
    (hq : Q (if k2.cps.toList < k1.cps.toList then #[1, 0] else #[0, 1]) s) :
    wpAny (model prog w) A (keyKind' [Value.ref a1, Value.ref a2].toArray) (fun κ s' => (kas_sort ([Value.ref a1, Value.ref a2] : List Value).length).kasWp (kas_ask prog w A κ [Value.ref a1, Value.ref a2]) Q s') (fun _ _ => False) s := by
  refine kat_kind (fs := [.str k1 t1, .str k2 t2]) (T := .type "str") (KatTups.cons h1 rfl rfl rfl (KatTups.cons h2 rfl rfl rfl KatTups.nil)) (Nat.succ_pos _) (fun v hv => ?_) (by decide) ?_
  · simp only [List.mem_cons, List.not_mem_nil, or_false] at hv
    rcases hv with rfl | rfl <;> exact Looks.of_pure (by kernel_rfl)
  · rw [show ([Value.ref a1, Value.ref a2] : List Value).length = 2 from rfl, kas_sort2]
    show wpAny (model prog w) A (keyLt' (tuples' (Value.type "str" != Value.type "tuple")) (.ref a2) (.ref a1)) _ _ s
    refine kat_lt h2 rfl h1 rfl ?_
    refine kat_cons ?_
    refine wpAny_eqBool_str ?_
    rw [decide_eq_false hne]
    refine kat_no ?_
    refine oneLt_str ?_
    by_cases hlt : k2.cps.toList < k1.cps.toList
    · rw [if_pos hlt] at hq
      rw [decide_eq_true hlt]
      exact hq
    · rw [if_neg hlt] at hq
      rw [decide_eq_false hlt]
      exact hq
end
end Mine
end

section
open PySem PySem.W PyProof.Rows PySem.Calls PySem.Spec
set_option autoImplicit false
namespace Mine
theorem ltyx : ¬ ((Str.ofString "?y").cps.toList < (Str.ofString "?x").cps.toList) := by decide +kernel
theorem ltxy : (Str.ofString "?x").cps.toList < (Str.ofString "?y").cps.toList := by decide +kernel
section
variable {W : Wd} {G : Heap} {L : Addr} {m : List (Str × Value)} {news news' pre post : List (Addr × (Obj → Prop))} {s : Shared} {A : Around} {E : Value → Shared → Prop} {env : Env} {v : Value} {pos : Pos}
  {Q : Value → Shared → Prop} {fs : List Env} {n B : Nat} {l : Addr}
theorem Led.freshAdd {h' : Heap} {B : Addr} {P : Obj → Prop} (D : Led W G L m news s) (k : ∀ b o, s.heap.get? b = some o → b ≠ L → h'.get? b = some o) {m₀ : Str → Option Value} (hm : ∀ y v, lk m y = some v → m₀ y = some v) (hn : h'.Ns L m₀) (hB : s.heap.get? B = none) (e : ∃ o, h'.get? B = some o ∧ P o) (hBL : B ≠ L) :
    Led W G L m ((B, P) :: news) { s with heap := h' } := by
  have D₁ : Led W G L m news { s with heap := h' } := D.keptL (s' := { s with heap := h' }) hm hn k
  refine D₁.more e ?_ hBL fun p hp z => ?_
  · cases q : G.get? B with
    | none => rfl
    | some o' => have := D.hs.keep _ _ q; rw [hB] at this; cases this
  · obtain ⟨⟨o', e', _⟩, _⟩ := D.nw p hp
    rw [z, hB] at e'; cases e'
theorem l_sorted {f : List (Str × Tr)} {vs : List Value} {k : Nat} (D : Led W G L m news s) (hl : s.heap.get? l = some (lstOf vs.toArray k)) (hr : Reps G vs (f.map pairT)) (nd : (f.map (·.1)).Nodup) (hxy : ∀ k ∈ f.map (·.1), XY k)
    (h : ∀ B s' out, Led W G L m ((B, isL (out : List Value).toArray) :: news) s' → Reps G out ((ordP f).map pairT) → Q (.ref B) s') : wpAny (model pw W.w) A (call (.builtin "sorted") [.ref l]) Q E s := by
  obtain ⟨m₀, hn, hm⟩ := D.ns
  have hlen := hr.len
  rw [List.length_map] at hlen
  have hsh := short nd hxy
  rw [List.length_map] at hsh
  have hL : L < s.heap.objs.size := hn.lt
  by_cases h1 : f.length < 2
  · have hord : ordP f = f := by
      match f, h1 with
      | [], _ => rfl
      | [(a, t)], _ => rcases hxy a (by simp) with rfl | rfl <;> rfl
    refine sorted_small (isList_of hl) (by lia) ?_
    obtain ⟨e, he⟩ := sortedAll_at s.heap vs ((pairsOf vs).map (·.2))
    have hout : (pairsOf vs).map (·.2) = vs.toArray := by
      rw [← Array.toList_inj, Array.toList_map, pairsOf_toList]
      induction vs with
      | nil => rfl
      | cons a r ih => simp [List.map_snd_zip]
    rw [hout] at he ⊢
    refine h _ _ vs (D.freshAdd (fun b o q _ => sortedAll_old q) hm (hn.keeps fun b o q => sortedAll_old q) (Heap.get?_none_of_le (Nat.le_succ _)) ⟨_, he, e, rfl⟩ (Nat.ne_of_gt (Nat.lt_succ_of_lt hL))) (by rw [hord]; exact hr)
  · obtain ⟨⟨ka, ta⟩, ⟨kb, tb⟩, rfl⟩ : ∃ p q, f = [p, q] := by
      match f, h1, hsh with
      | [p, q], _, _ => exact ⟨p, q, rfl⟩
      | [], h1, _ => exact absurd h1 (by simp)
      | [_], h1, _ => exact absurd h1 (by simp)
      | _ :: _ :: _ :: _, _, h => simp at h
    cases hr with
    | @cons v1 _ r1 _ hv1 hr =>
    cases hr with
    | @cons v2 _ r2 _ hv2 hr =>
    cases hr
    cases hv1 with
    | @node a1 vs1 n1 _ hg1 hrs1 =>
    cases hrs1 with
    | cons x1 hrs1 =>
    cases x1 with
    | @leaf _ t1 =>
    cases hrs1 with
    | @cons u1 _ _ _ x1 hrs1 =>
    cases hrs1
    cases hv2 with
    | @node a2 vs2 n2 _ hg2 hrs2 =>
    cases hrs2 with
    | cons x2 hrs2 =>
    cases x2 with
    | @leaf _ t2 =>
    cases hrs2 with
    | @cons u2 _ _ _ x2 hrs2 =>
    cases hrs2
    have hne : kb ≠ ka := by
      intro z; subst z; simp at nd
    refine kat_sorted (fr_nil hn) (news_all [L] (.head _) s.heap) (isList_of hl) (Nat.le_refl 2) (by show 2 < 64; lia) fun Dd e1 h' F' N' l1 => ?_
    have hD := N' _ (.head _)
    have hDn : s.heap.get? Dd = none := by
      cases q : s.heap.get? Dd with
      | none => rfl
      | some o' => exact absurd (l1 (Dd, o') (mem_allN.mpr ⟨by simpa using hD.2.1, q⟩)) (Nat.lt_irrefl _)
    have st : ∀ b o, s.heap.get? b = some o → b ≠ L → h'.get? b = some o := fun b o e nb => (N' (b, o) (.tail _ (mem_allN.mpr ⟨by simpa using nb, e⟩))).1
    have gL : ∀ a vs n, G.get? a = some (tupOf vs n) → a ≠ L := fun a vs n e z => by rw [z, D.off] at e; cases e
    refine ask2 (s := { s with heap := h' }) (st _ _ (D.at hg1) (gL _ _ _ hg1)) (st _ _ (D.at hg2) (gL _ _ _ hg2)) hne ?_
    refine KasFin.intro F' N' (.head fun p hp z => ?_) fun h'' c F'' N'' => ?_
    · have := l1 p hp
      rw [z] at this; exact Nat.lt_irrefl _ this
    · have hD2 := N'' _ (.head _)
      refine h Dd _ _ (D.freshAdd (fun b o e nb => (N'' (b, o) (.tail _ (mem_allN.mpr ⟨by simpa using nb, e⟩))).1) hm F''.ns hDn ⟨_, hD2.1, c, rfl⟩ hD2.2.1) ?_
      have r1 : Rep G (.ref a1) (pairT (ka, ta)) := .node hg1 (.cons .leaf (.cons x1 .nil))
      have r2 : Rep G (.ref a2) (pairT (kb, tb)) := .node hg2 (.cons .leaf (.cons x2 .nil))
      rcases hxy ka (by simp) with rfl | rfl <;> rcases hxy kb (by simp) with rfl | rfl
      · exact absurd rfl hne
      · rw [if_neg ltyx]
        exact .cons r1 (.cons r2 .nil)
      · rw [if_pos ltxy]
        exact .cons r2 (.cons r1 .nil)
      · exact absurd rfl hne
end
end Mine
end

section
open PySem PySem.W PyProof.Rows PySem.Calls PySem.Spec
set_option autoImplicit false
namespace Mine
theorem warmsq (w : World) (h : Heap) : (hd.heap_39 w.params).In h → PySem.Challenge.rw_rh0003_01.prog = PySem.Challenge.rw_rh0003_01.prog := by
  k_fill
  intro _
  rfl
noncomputable def flat (f : List (Str × Tr × Tr)) : List Tr := f.flatMap fun q => [.leaf q.1, q.2.1]
noncomputable def snd3 (f : List (Str × Tr × Tr)) : List (Str × Tr) := f.map fun q => (q.1, q.2.2)
noncomputable def joinT (acc t : Tr) : Tr := .node [.leaf "join", acc, t]
inductive PapOf : Nat → Tr → Tr → Prop
  | same {k : Nat} {r t : Tr} : TermOf k r t → PapOf (k + 1) (.node [.leaf "same", r]) (.node [.leaf "same", t])
  | told {k : Nat} {w : Str} : PapOf (k + 1) (.node [.leaf "told", .leaf w]) (.node [.leaf "told", .leaf w])
  | rule {k : Nat} {w : Str} {f : List (Str × Tr × Tr)} : (∀ q ∈ f, TermOf k q.2.1 q.2.2) → (f.map (·.1)).Nodup → (∀ x ∈ f.map (·.1), XY x) → PapOf (k + 1) (.node (.leaf "rule" :: .leaf w :: flat f)) (.node [.leaf "rule", .leaf w, .node ((ordP (snd3 f)).map pairT)])
  | under {k : Nat} {w : Str} {rs ts : List Tr} : rs.length ≤ 1000 → rs.length = ts.length → (∀ (i : Nat) (r t : Tr), rs[i]? = some r → ts[i]? = some t → PapOf k r t) → PapOf (k + 1) (.node (.leaf "under" :: .leaf w :: rs)) (.node [.leaf "under", .leaf w, .node ts])
  | turn {k : Nat} {r t : Tr} : PapOf k r t → PapOf (k + 1) (.node [.leaf "turn", r]) (.node [.leaf "turn", t])
  | join {k : Nat} {r1 t1 : Tr} {rs ts : List Tr} : PapOf k r1 t1 → rs.length ≤ 1000 → rs.length = ts.length → (∀ (i : Nat) (r t : Tr), rs[i]? = some r → ts[i]? = some t → PapOf k r t) → PapOf (k + 1) (.node (.leaf "join" :: r1 :: rs)) (ts.foldl joinT t1)
section
variable {W : Wd} {G : Heap} {L : Addr} {m : List (Str × Value)} {news news' pre post : List (Addr × (Obj → Prop))} {s : Shared} {A : Around} {E : Value → Shared → Prop} {env : Env} {v : Value} {pos : Pos}
  {Q : Value → Shared → Prop} {fs : List Env} {n B : Nat} {l : Addr}
theorem t_eqE {o c y : Str} {t : Tok} {p1 p2 p3 : Pos} {k : Nat} {whole : Sem Value} {Q : Bool → Shared → Prop} (D : Led W G L m news s) (hv : lk m o = some (.str y t)) (h : ∀ s', Led W G L m news s' → Q (y == c) s') (hL : env.locals = L := by rfl)
    (hk : env.scope.kind = .function := by rfl) (hl : env.kindOf o = some .local := by rfl) (hd : (o == ("__debug__" : Str)) = false := by decide) :
    wpAny (model pw W.w) A (PySem.isTrue (.Compare (.Name o p1) [.Eq] [.Constant (.str c) k p2] p3) env whole) Q E s :=
  wpAny_isTrue_Compare1 (nmE D hv (e_str D fun s' t' D' => eq_str (wpAny_truthy_bool (h _ D'))) hL hk hl hd)
theorem fmg_paperof : nsIn (hd.heap_39 W.w.params) mainGlobals "_law_paper_of" = some (some (.ref 330)) := by k_is
theorem k330 : keepIn (hd.heap_39 W.w.params) (.ref 330) = true := by k_is
noncomputable def CPO (W : Wd) (k : Nat) (raw t : Tr) : Prop := ∀ (G : Heap) (s : Shared) (A : Around) (E Q : Value → Shared → Prop) (v : Value), Hs W G s → A.depth + k + 8 ≤ 990 → A.handled = none → RepL G v raw →
    (∀ s' v', Hs W s.heap s' → Rep s'.heap v' t → Q v' s') → wpAny (model pw W.w) A (call (.ref 330) [v]) Q E s
theorem t_fin {vs : List Value} {ls : List Tr} {G₀ : Heap} (D : Led W G L m news s) (rs : Reps G vs ls) (hz : vs.length ≤ sizeLine) (g : G₀.StaysIn G) (ht : W.H.StaysIn G₀) (kk : ∀ s' v', Hs W G₀ s' → Rep s'.heap v' (.node ls) → Q v' s') : wpAny (model pw W.w) A (newTuple vs) Q E s := by
  refine t_new D hz fun a s' D' => ?_
  obtain ⟨_, ha, rfl⟩ := D'.get (.head _)
  exact kk _ _ (D'.lo g ht).hs (.node ha (rs.mono D'.hs.keep))
theorem tl_gr {vs : List Value} {ls : List Tr} {k : Nat} (D : Led W G L m news s) (hl : s.heap.get? l = some (lstOf vs.toArray k)) (rs : Reps G vs ls) (hz : vs.length ≤ 100000)
    (h : ∀ a s' G', Led W G' L m news s' → G.StaysIn G' → Rep G' (.ref a) (.node ls) → Q (.ref a) s') : wpAny (model pw W.w) A (call (.type "tuple") [.ref l]) Q E s := by
  refine call_tuple_list (isList_of hl) (fun h' k' => ?_) (by rw [sizeLine_eq, List.size_toArray]; lia)
  have D₂ := (D.kept (s' := { s with heap := h' }) k').push (tupOf vs 0) (· = tupOf vs 0) rfl rfl
  obtain ⟨_, ha, rfl⟩ := D₂.get (.head _)
  obtain ⟨G', D₃, g, e⟩ := gr_of D₂ ha
  exact h _ _ _ D₃ g (.node e (rs.mono g))
theorem Led.reps {vs : List Value} {ls : List Tr} (D : Led W G L m news s) (hn : ∀ p ∈ news, ∀ o, p.2 o → notTup o) (x : Reps s.heap vs ls) : Reps (hid s.heap (L :: news.map (·.1))) vs ls :=
  x.mono' fun a vs n e => tupG D hn e
theorem rg3_size (m : Nat) : Builtin.Range.rangeSize 2 ((2 + 2 * m : Nat) : Int) 2 = m := by
  unfold Builtin.Range.rangeSize
  first | refine if_yes rfl ?_ | rw [if_pos (by decide)]
  split <;> lia
theorem rg3_small {m : Nat} (h : m ≤ 10000) : Builtin.Range.small 2 ((2 + 2 * m : Nat) : Int) 2 = true := by
  unfold Builtin.Range.small
  rw [rg3_size]
  have e : ∀ z : Int, 0 ≤ z → z ≤ 100000 → Builtin.Range.rangeFitsLong z = true := by
    intro z h0 h1
    unfold Builtin.Range.rangeFitsLong
    simp
    lia
  rw [e 2 (by lia) (by lia), e ((2 + 2 * m : Nat) : Int) (by lia) (by lia)]
  rw [if_pos (by decide), e (((2 + 2 * m : Nat) : Int) + (2 - 1)) (by lia) (by lia)]
  simp [e m (by lia) (by lia)]
theorem rg3_new {m' : Nat} {t u w : Tok} (D : Led W G L m news s) (hk : m' ≤ 10000) (h : ∀ a s', Led W G L m ((a, isRg 2 m' 2) :: news) s' → Q (.ref a) s') : wpAny (model pw W.w) A (call (.type "range") [.int 2 t, .int ((2 + 2 * m' : Nat) : Int) u, .int 2 w]) (fun v s' => wpAny (model pw W.w) A (pyIter v) Q E s') E s := by
  refine call_range_3 (by decide) ?_ (.inl ?_)
  · have D₁ := D.pushed { cls := .type "range", data := .fields #[.int 2 t, .int ((2 + 2 * m' : Nat) : Int) u, .int 2 w] } rfl
    refine wpAny_pyIter_range (a := 2) (b := ((2 + 2 * m' : Nat) : Int)) (c := 2) (t := t) (u := u) (v := w) (Heap.get?_push_size _ rfl) (rg3_small hk) ?_
    rw [rg3_size]
    exact h _ _ (D₁.push _ _ rfl rfl)
  · rfl
theorem flat_len (f : List (Str × Tr × Tr)) : (flat f).length = 2 * f.length := by
  unfold flat
  induction f with
  | nil => rfl
  | cons q r ih => rw [List.flatMap_cons, List.length_append, ih]; simp; lia
theorem flat_at : ∀ (f : List (Str × Tr × Tr)) (i : Nat) (q : Str × Tr × Tr), f[i]? = some q → (flat f)[2 * i]? = some (.leaf q.1) ∧ (flat f)[2 * i + 1]? = some q.2.1
  | [], i, q, h => by simp at h
  | p :: r, 0, q, h => by cases h; exact ⟨rfl, rfl⟩
  | p :: r, i + 1, q, h => by
    have ih := flat_at r i q (by simpa using h)
    have e : flat (p :: r) = .leaf p.1 :: p.2.1 :: flat r := rfl
    rw [e, show 2 * (i + 1) = 2 * i + 1 + 1 from by lia]
    simp only [List.getElem?_cons_succ]
    exact ih
inductive PofJ (W : Wd) (C I acc L a : Addr) (oL : Obj) (f : List (Str × Tr × Tr)) (s : Shared) (i : Nat) (s' : Shared) : Prop
  | mk (vals : List Value) (mC : List (Str × Value)) (G₃ : Heap) (_ : Led W G₃ C mC [(I, isRg ((2 + 2 * i : Nat) : Int) ((f.length : Int) - (i : Int)) 2), (acc, isL vals.toArray), (L, (· = oL)), (L + 1, isC (some (Value.ref a)))] s') (_ : Reps G₃ vals (((snd3 f).take i).map pairT)) (_ : s.heap.StaysIn G₃) : PofJ W C I acc L a oL f s i s'
inductive PofI (W : Wd) (I b L a : Addr) (t0 : Tok) (ts : List Tr) (t1 : Tr) (G₁₀ : Heap) (i : Nat) (s' : Shared) : Prop
  | mk (vf : Value) (mI : List (Str × Value)) (G' : Heap) (_ : Led W G' L mI [(I, isIt "list_iterator" (.ref b) i), (L + 1, isC (some (Value.ref a)))] s') (_ : lk mI "found" = some vf) (_ : lk mI "kind" = some (.str "join" t0)) (_ : Rep G' vf ((ts.take i).foldl joinT t1)) (_ : G₁₀.StaysIn G') : PofI W I b L a t0 ts t1 G₁₀ i s'
theorem c_paperof1 (k : Nat) (ih : ∀ k', k' < k → ∀ raw t, PapOf k' raw t → CPO W k' raw t) (raw t : Tr) (hT : PapOf k raw t) : CPO W k raw t := by
  intro G s A E Q v hs hdp hh hR kk
  have hR := hR.mono hs.keep
  refine enterCell [] (some v) (news := []) hs.all (fun _ h => nomatch h) List.nodup_nil (by k_is) (by k_is) (show A.depth < 1000 by lia) rfl ?_ (cvn := "raw") (by intro _; rfl) (fun L y v e => (by cases e)) (fun L => rfl) rfl rfl rfl fun L s₁ D stk hL => ?_
  · intro n q hq
    rw [List.mem_singleton.mp hq]
    exact .inr ⟨rfl, rfl⟩
  have ntc : ∀ p ∈ [((L + 1, isC (some v)) : Addr × (Obj → Prop))], ∀ o, p.2 o → notTup o := fun p hp o ho => by
    rw [List.mem_singleton.mp hp] at ho; exact isC_nt o ho
  obtain ⟨kd, rest, rfl⟩ : ∃ kd rest, raw = .node (.leaf kd :: rest) := by cases hT <;> exact ⟨_, _, rfl⟩
  cases hR with
  | @node a vs na _ hla hRs =>
  cases hRs with
  | @cons v0 _ vr _ hv0 hvr =>
  cases hv0 with
  | @leaf _ t0 =>
  have hvl := hvr.len
  refine x_asg ?_
  refine Subscript_ ?_
  refine n_cell D (.head _) ?_
  refine e_int D fun s₂ t₂ D₂ => ?_
  refine li_get (D₂.at hla) (k := 0) (v := .str kd t0) rfl (by decide) (by simp) ?_
  refine s_locE D₂ fun s₃ D₃ => ?_
  refine x_if ?_
  refine t_eqE D₃ lk_hd fun s₄ D₄ => ?_
  cases hT with
  | @same k r t hr =>
    first | refine if_yes (show (Str.ofString "same" == Str.ofString "same") = true from (by decide +kernel)) ?_ | rw [show (Str.ofString "same" == Str.ofString "same") = true from by decide +kernel, if_pos rfl]
    obtain ⟨v1, hv1, hR1⟩ := hvr.at 0 r rfl
    refine x_ret ?_
    refine Tuple_ ?_
    refine spliced_more (e_str D₄ fun s₅ tk D₅ => ?_)
    refine spliced_more ?_
    refine Call_ ?_
    refine n_glbE D₅ (mg_some hs.st fmg_termof) ?_
    refine callWith_K D₅.hs.X k325 (spliced_more ?_)
    refine Subscript_ ?_
    refine n_cell D₅ (.head _) ?_
    refine e_int D₅ fun s₆ t₆ D₆ => ?_
    refine li_get (D₆.at hla) (k := 1) (v := v1) rfl (by decide) (by simpa using hv1) ?_
    refine spliced_none ⟨D₆.hs.X, ?_⟩
    refine c_termof k r t hr _ _ _ _ _ _ D₆.hs (show A.depth + 1 + k + 5 ≤ 990 by lia) hh hR1 fun s₇ v7 H₇ hr7 => ?_
    have D₇ := D₆.back0 H₇
    refine spliced_none ?_
    exact t_fin D₇.anew.1 (.cons .leaf (.cons (D₇.rep ntc hr7) .nil)) (by size_fits) D₇.anew.2 hs.all.top fun s' v' H' r' => seq_ret (ret_v (kk _ _ H' r'))
  | @told k w =>
    first | refine if_no (show (Str.ofString "told" == Str.ofString "same") = false from (by decide +kernel)) ?_ | rw [show (Str.ofString "told" == Str.ofString "same") = false from by decide +kernel, if_neg (by decide)]
    refine x_nil (seq_next ?_)
    refine x_if ?_
    refine t_eqE D₄ lk_hd fun s₄ D₄ => ?_
    first | refine if_yes (show (Str.ofString "told" == Str.ofString "told") = true from (by decide +kernel)) ?_ | rw [show (Str.ofString "told" == Str.ofString "told") = true from by decide +kernel, if_pos rfl]
    obtain ⟨v1, hv1, hR1⟩ := hvr.at 0 (.leaf w) rfl
    cases hR1 with
    | @leaf _ tw =>
    refine x_ret ?_
    refine Tuple_ ?_
    refine spliced_more (e_str D₄ fun s₅ tk D₅ => ?_)
    refine spliced_more ?_
    refine Subscript_ ?_
    refine n_cell D₅ (.head _) ?_
    refine e_int D₅ fun s₆ t₆ D₆ => ?_
    refine li_get (D₆.at hla) (k := 1) (v := .str w tw) rfl (by decide) (by simpa using hv1) ?_
    refine spliced_none ?_
    exact t_fin D₆ (.cons .leaf (.cons .leaf .nil)) (by size_fits) (fun _ _ z => z) hs.all.top fun s' v' H' r' => seq_ret (ret_v (kk _ _ H' r'))
  | @rule k w f hf nd xy =>
    first | refine if_no (show (Str.ofString "rule" == Str.ofString "same") = false from (by decide +kernel)) ?_ | rw [show (Str.ofString "rule" == Str.ofString "same") = false from by decide +kernel, if_neg (by decide)]
    refine x_nil (seq_next ?_)
    refine x_if ?_
    refine t_eqE D₄ lk_hd fun s₄ D₄ => ?_
    first | refine if_no (show (Str.ofString "rule" == Str.ofString "told") = false from (by decide +kernel)) ?_ | rw [show (Str.ofString "rule" == Str.ofString "told") = false from by decide +kernel, if_neg (by decide)]
    refine x_nil (seq_next ?_)
    refine x_if ?_
    refine t_eqE D₄ lk_hd fun s₄ D₄ => ?_
    first | refine if_yes (show (Str.ofString "rule" == Str.ofString "rule") = true from (by decide +kernel)) ?_ | rw [show (Str.ofString "rule" == Str.ofString "rule") = true from by decide +kernel, if_pos rfl]
    obtain ⟨v1, hv1, hR1⟩ := hvr.at 0 (.leaf w) rfl
    cases hR1 with
    | @leaf _ tw =>
    simp only [List.length_cons, flat_len] at hvl
    have hf2 : f.length ≤ 2 := by have := short nd xy; simpa using this
    have hvrl : vr.length = 1 + 2 * f.length := by lia
    refine x_ret ?_
    refine hide fun Q₁ E₁ hQ₁ hE₁ => ?_
    refine Tuple_ ?_
    refine spliced_more (e_str D₄ fun s₅ tk D₅ => ?_)
    refine spliced_more ?_
    refine Subscript_ ?_
    refine n_cell D₅ (.head _) ?_
    refine e_int D₅ fun s₆ t₆ D₆ => ?_
    refine li_get (D₆.at hla) (k := 1) (v := .str w tw) rfl (by decide) (by simpa using hv1) ?_
    refine spliced_more ?_
    refine Call_ ?_
    refine n_bltE D₆ (mg_none hs.st fmg_tuple) rfl (kb1 (spliced_more ?_))
    refine Call_ ?_
    refine n_bltE D₆ (mg_none hs.st fmg_sorted) rfl (kb1 (spliced_more ?_))
    refine hide fun Q₂ E₂ hQ₂ hE₂ => ?_
    refine e_compF (cl := [("raw", L + 1)]) rfl (news := [(L + 1, isC (some (Value.ref a)))]) (m := [("kind", .str "rule" t0)]) (G := s.heap) (L := L) ?_
    refine Call_ ?_
    refine n_bltE D₆ (mg_none hs.st fmg_range) rfl (kb1 ?_)
    refine spliced_more (e_int D₆ fun s₇ t₇ D₇ => ?_)
    refine spliced_more ?_
    refine Call_ ?_
    refine n_bltE D₇ (mg_none hs.st fmg_len) rfl (kb1 (spliced_more ?_))
    refine n_cell D₇ (.head _) ?_
    refine spliced_none ?_
    refine call_len_list (isList_of (D₇.at hla)) (by simp only [List.size_toArray, List.length_cons]; lia) ?_
    have D₈ := D₇.tok (s₇.toks + 1 + 1)
    refine spliced_more (e_int D₈ fun s₉ t₉ D₉ => ?_)
    refine spliced_none ?_
    rw [show ((((Value.str (Str.ofString "rule") t0 :: vr).toArray.size : Nat) : Int)) = ((2 + 2 * f.length : Nat) : Int) from by simp only [List.size_toArray, List.length_cons]; lia]
    refine rg3_new D₉ (by lia) fun I s₁₀ D₁₀ => ?_
    refine ⟨I, _, rfl, D₁₀, fun A' s' Q' E' hI h => ?_, fun acc C oL s₁₁ k₁₁ hacc D₁₁ => ?_⟩
    · obtain ⟨o, e, ho⟩ := hI
      have ho : o = _ := ho
      rw [ho] at e
      exact wpAny_pyIter_rangeiter e h
    have hoL : notTup oL := by
      obtain ⟨m₀, ⟨o, es, ep, ho, hd, _⟩, _⟩ := D₁₀.ns
      obtain ⟨o', e', rfl⟩ := D₁₁.get (p := (L, (· = oL))) (.tail _ (.tail _ (.head _)))
      rw [k₁₁ _ _ ho] at e'; cases e'
      intro vs n q; rw [q] at hd; cases hd
    refine c_loopH (PofJ W C I acc L a oL f s) f.length ?_ ?_ ?_
    · refine ⟨[], [], s.heap, ?_, by rw [List.take_zero]; exact .nil, fun _ _ z => z⟩
      rw [show ((2 + 2 * 0 : Nat) : Int) = 2 from rfl, show ((f.length : Int) - ((0 : Nat) : Int)) = (f.length : Int) from by lia]
      exact D₁₁
    · rintro R₀ N₀ hR₀ hN₀ s₁₂ ⟨vals, mC, G₃, D₁₂, rs, g₃⟩
      refine end_rg hh D₁₂ (by lia) fun s₁₃ D₁₃ => ⟨rfl, ?_⟩
      subst hR₀
      refine ⟨rfl, vals.toArray, mC, D₁₃.lo g₃ hs.all.top, fun s₁₄ k₁₄ D₁₄ => ?_⟩
      subst hQ₂
      rw [List.take_of_length_le (by unfold snd3; rw [List.length_map]; exact Nat.le_refl _)] at rs
      have rs' : Reps s₁₄.heap vals ((snd3 f).map pairT) := by
        refine (rs.mono D₁₃.hs.keep).mono' fun a vs n e => k₁₄ a _ (fun z => ?_) e
        obtain ⟨m₀, ⟨o, es, ep, ho, hd, _⟩, _⟩ := D₁₃.ns
        rw [← z, e] at ho; cases ho; cases hd
      have nta : ∀ p ∈ ((acc, isL vals.toArray) :: [((L + 1, isC (some (Value.ref a))) : Addr × (Obj → Prop))]), ∀ o, p.2 o → notTup o := fun p hp o ho => by
        rcases List.mem_cons.mp hp with rfl | hp
        · exact isL_nt o ho
        · exact ntc p hp o ho
      have rs'' := D₁₄.reps nta rs'
      obtain ⟨Da, ga⟩ := D₁₄.anew
      obtain ⟨ka, hka⟩ := isL_get (Da.get (.head _))
      refine spliced_none ?_
      refine l_sorted Da hka rs'' (by unfold snd3; rw [List.map_map]; exact nd) (by unfold snd3; rw [List.map_map]; exact xy) fun Bs s₁₅ out D₁₅ ro => ?_
      obtain ⟨kb, hkb⟩ := isL_get (D₁₅.get (.head _))
      have hol : out.length ≤ 100000 := by
        rw [ro.len, List.length_map]
        unfold ordP
        rw [List.length_append]
        have h1 := List.length_filter_le (fun (x : Str × Tr) => x.1 == Str.ofString "?x") (snd3 f)
        have h2 := List.length_filter_le (fun (x : Str × Tr) => x.1 == Str.ofString "?y") (snd3 f)
        unfold snd3 at h1 h2 ⊢
        rw [List.length_map] at h1 h2
        lia
      refine spliced_none ?_
      refine tl_gr D₁₅ hkb ro hol fun at_ s₁₆ G₁₆ D₁₆ g₁₆ hr16 => ?_
      refine spliced_none ?_
      exact t_fin D₁₆ (.cons .leaf (.cons .leaf (.cons hr16 .nil))) (by size_fits) (fun b o z => g₁₆ b o (ga b o z)) hs.all.top fun s' v' H' r' => by subst hQ₁; exact seq_ret (ret_v (kk _ _ H' r'))
    · rintro B₃ N₃ hB₃ hN₃ i s₁₂ hi ⟨vals, mC, G₃, D₁₂, rs, g₃⟩
      obtain ⟨q, hq⟩ : ∃ q, f[i]? = some q := ⟨_, List.getElem?_eq_getElem hi⟩
      obtain ⟨f1, f2⟩ := flat_at f i q hq
      obtain ⟨vk, hvk, hRk⟩ := hvr.at (1 + 2 * i) (.leaf q.1) (by rw [show 1 + 2 * i = 2 * i + 1 from by lia, List.getElem?_cons_succ]; exact f1)
      obtain ⟨vt, hvt, hRt⟩ := hvr.at (2 + 2 * i) q.2.1 (by rw [show 2 + 2 * i = (2 * i + 1) + 1 from by lia, List.getElem?_cons_succ]; exact f2)
      cases hRk with
      | @leaf _ tk1 =>
      have hvals : vals.length ≤ 2 := by rw [rs.len, List.length_map, List.length_take]; lia
      refine nx_rg D₁₂ (by lia) fun s₁₃ ti D₁₃ => ⟨_, rfl, a_locE D₁₃ fun s₁₄ D₁₄ => ?_⟩
      refine no_tests ?_
      first | refine if_yes rfl ?_ | rw [if_pos rfl]
      refine Tuple_ ?_
      refine spliced_more ?_
      refine Subscript_ ?_
      refine n_cell D₁₄ (.tail _ (.tail _ (.tail _ (.head _)))) ?_
      refine nmE D₁₄ lk_hd ?_
      refine li_get (D₁₄.at (g₃ _ _ hla)) (k := 2 + 2 * i) (v := .str q.1 tk1) rfl (by lia) (by rw [show 2 + 2 * i = (1 + 2 * i) + 1 from by lia]; simpa using hvk) ?_
      refine spliced_more ?_
      refine Call_ ?_
      refine n_glbE D₁₄ (mg_some hs.st fmg_termof) ?_
      refine callWith_K D₁₄.hs.X k325 (spliced_more ?_)
      refine Subscript_ ?_
      refine n_cell D₁₄ (.tail _ (.tail _ (.tail _ (.head _)))) ?_
      refine wpAny_BinOp ?_
      refine nmE D₁₄ lk_hd ?_
      refine e_int D₁₄ fun s₁₅ t₁₅ D₁₅ => ?_
      refine P.add_int ?_
      have D₁₆ := D₁₅.tok (s₁₅.toks + 1)
      refine li_get (D₁₆.at (g₃ _ _ hla)) (k := 3 + 2 * i) (v := vt) (by lia) (by lia) (by rw [show 3 + 2 * i = (2 + 2 * i) + 1 from by lia]; simpa using hvt) ?_
      refine spliced_none ⟨D₁₆.hs.X, ?_⟩
      refine c_termof k q.2.1 q.2.2 (hf q (List.mem_of_getElem? hq)) _ _ _ _ _ _ D₁₆.hs (show A.depth + 1 + k + 5 ≤ 990 by lia) hh (hRt.mono g₃) fun s₁₇ v17 H₁₇ hr17 => ?_
      have D₁₇ := D₁₆.back0 H₁₇
      have nti : ∀ p ∈ [(I, isRg ((2 + 2 * i : Nat) + 2) ((f.length : Int) - (i : Int) - 1) 2), (acc, isL vals.toArray), (L, (· = oL)), ((L + 1, isC (some (Value.ref a))) : Addr × (Obj → Prop))], ∀ o, p.2 o → notTup o := fun p hp o ho => by
        rcases List.mem_cons.mp hp with rfl | hp
        · exact isRg_nt o ho
        rcases List.mem_cons.mp hp with rfl | hp
        · exact isL_nt o ho
        rcases List.mem_cons.mp hp with rfl | hp
        · rw [show o = oL from ho]; exact hoL
        · exact ntc p hp o ho
      have hr17' := D₁₇.rep nti hr17
      obtain ⟨Db, gb⟩ := D₁₇.anew
      refine spliced_none ?_
      refine t_gr Db (by size_fits) fun at_ s₁₈ G₁₈ D₁₈ g₁₈ hat => ?_
      refine l_append (pre := [(I, isRg ((2 + 2 * i : Nat) + 2) ((f.length : Int) - (i : Int) - 1) 2)]) (its := vals.toArray) D₁₈ (by rw [sizeLine_eq, List.size_toArray]; lia) fun s₁₉ D₁₉ => ?_
      subst hB₃
      refine ⟨vals ++ [.ref at_], ("k", .int ((2 + 2 * i : Nat) : Int) ti) :: mC, G₁₈, ?_, ?_, fun b o z => g₁₈ b o (gb b o (g₃ b o z))⟩
      · rw [← List.push_toArray, show ((2 + 2 * (i + 1) : Nat) : Int) = ((2 + 2 * i : Nat) : Int) + 2 from by lia, show ((f.length : Int) - ((i + 1 : Nat) : Int)) = (f.length : Int) - (i : Int) - 1 from by lia]
        exact D₁₉
      · have hq3 : (snd3 f)[i]? = some (q.1, q.2.2) := by unfold snd3; rw [List.getElem?_map, hq]; rfl
        rw [List.take_add_one, hq3]
        show Reps _ _ (((snd3 f).take i ++ [(q.1, q.2.2)]).map pairT)
        rw [List.map_append (f := pairT)]
        exact ((rs.mono gb).mono g₁₈).snoc (.node hat (.cons .leaf (.cons (hr17'.mono g₁₈) .nil)))
  | @under k w rs ts hz hlen hkids =>
    first | refine if_no (show (Str.ofString "under" == Str.ofString "same") = false from (by decide +kernel)) ?_ | rw [show (Str.ofString "under" == Str.ofString "same") = false from by decide +kernel, if_neg (by decide)]
    refine x_nil (seq_next ?_)
    refine x_if ?_
    refine t_eqE D₄ lk_hd fun s₄ D₄ => ?_
    first | refine if_no (show (Str.ofString "under" == Str.ofString "told") = false from (by decide +kernel)) ?_ | rw [show (Str.ofString "under" == Str.ofString "told") = false from by decide +kernel, if_neg (by decide)]
    refine x_nil (seq_next ?_)
    refine x_if ?_
    refine t_eqE D₄ lk_hd fun s₄ D₄ => ?_
    first | refine if_no (show (Str.ofString "under" == Str.ofString "rule") = false from (by decide +kernel)) ?_ | rw [show (Str.ofString "under" == Str.ofString "rule") = false from by decide +kernel, if_neg (by decide)]
    refine x_nil (seq_next ?_)
    refine x_if ?_
    refine t_eqE D₄ lk_hd fun s₄ D₄ => ?_
    first | refine if_yes (show (Str.ofString "under" == Str.ofString "under") = true from (by decide +kernel)) ?_ | rw [show (Str.ofString "under" == Str.ofString "under") = true from by decide +kernel, if_pos rfl]
    obtain ⟨v1, hv1, hR1⟩ := hvr.at 0 (.leaf w) rfl
    cases hR1 with
    | @leaf _ tw =>
    have hvr1 : RepLs s.heap (vr.drop 1) rs := hvr.drop 1
    refine x_ret ?_
    refine hide fun Q₁ E₁ hQ₁ hE₁ => ?_
    refine Tuple_ ?_
    refine spliced_more (e_str D₄ fun s₅ tk D₅ => ?_)
    refine spliced_more ?_
    refine Subscript_ ?_
    refine n_cell D₅ (.head _) ?_
    refine e_int D₅ fun s₆ t₆ D₆ => ?_
    refine li_get (D₆.at hla) (k := 1) (v := .str w tw) rfl (by decide) (by simpa using hv1) ?_
    refine spliced_more ?_
    refine Call_ ?_
    refine n_bltE D₆ (mg_none hs.st fmg_tuple) rfl (kb1 (spliced_more ?_))
    refine hide fun Q₂ E₂ hQ₂ hE₂ => ?_
    refine map_comp fmg_paperof k330 hh ?_
    refine Subscript_ ?_
    refine n_cell D₆ (.head _) ?_
    refine wpAny_Slice (ep_some ?_)
    refine e_int D₆ fun s₇ t₇ D₇ => ?_
    refine ep_none (ep_none ?_)
    simp only [List.length_cons] at hvl
    refine sl_gr (a := 2) (D₇.pushed _ rfl) ((D₇.pushed _ rfl).at hla) ⟨_, Heap.get?_push_size _ rfl, rfl, rfl⟩ (by simp only [List.length_cons]; lia) (by simp only [List.length_cons]; lia) fun b s₈ G₈ k₈ D₈ g₈ hb => ?_
    have hvr1l := hvr1.len
    refine ⟨G₈, L, _, _, b, k₈, vr.drop 1, ts, rfl, D₈, ntc, by simpa using hb, by lia, by lia, ?_, ?_⟩
    · intro i v t hv ht G₂ s₂ E₂ Q₂ H₂ g₂ k₂
      obtain ⟨r, hr⟩ : ∃ r, rs[i]? = some r := ⟨_, List.getElem?_eq_getElem (by have := (List.getElem?_eq_some_iff.mp hv).1; lia)⟩
      obtain ⟨v', hv', hR'⟩ := hvr1.at i r hr
      rw [hv] at hv'; cases hv'
      exact ih k (Nat.lt_succ_self _) r t (hkids i r t hr ht) G₂ s₂ _ E₂ Q₂ v H₂ (show A.depth + 1 + k + 8 ≤ 990 by lia) hh (hR'.mono fun b o e => g₂ b o (g₈ b o e)) k₂
    · intro acc s₉ vals D₉ hrs
      have hvals : vals.length = ts.length := hrs.len
      have nta : ∀ p ∈ ((acc, isL vals.toArray) :: [((L + 1, isC (some (Value.ref a))) : Addr × (Obj → Prop))]), ∀ o, p.2 o → notTup o := fun p hp o ho => by
        rcases List.mem_cons.mp hp with rfl | hp
        · exact isL_nt o ho
        · exact ntc p hp o ho
      have hrs' := D₉.reps nta hrs
      obtain ⟨Da, ga⟩ := D₉.anew
      obtain ⟨ka, hacc⟩ := isL_get (Da.get (.head _))
      subst hQ₂
      refine spliced_none ?_
      refine tl_gr Da hacc hrs' (by lia) fun at_ s₁₀ G₁₀ D₁₀ g₁₀ hr10 => ?_
      refine spliced_none ?_
      exact t_fin D₁₀ (.cons .leaf (.cons .leaf (.cons hr10 .nil))) (by size_fits) (fun b o z => g₁₀ b o (ga b o (g₈ b o z))) hs.all.top fun s' v' H' r' => by subst hQ₁; exact seq_ret (ret_v (kk _ _ H' r'))
  | @turn k r t hr =>
    first | refine if_no (show (Str.ofString "turn" == Str.ofString "same") = false from (by decide +kernel)) ?_ | rw [show (Str.ofString "turn" == Str.ofString "same") = false from by decide +kernel, if_neg (by decide)]
    refine x_nil (seq_next ?_)
    refine x_if ?_
    refine t_eqE D₄ lk_hd fun s₄ D₄ => ?_
    first | refine if_no (show (Str.ofString "turn" == Str.ofString "told") = false from (by decide +kernel)) ?_ | rw [show (Str.ofString "turn" == Str.ofString "told") = false from by decide +kernel, if_neg (by decide)]
    refine x_nil (seq_next ?_)
    refine x_if ?_
    refine t_eqE D₄ lk_hd fun s₄ D₄ => ?_
    first | refine if_no (show (Str.ofString "turn" == Str.ofString "rule") = false from (by decide +kernel)) ?_ | rw [show (Str.ofString "turn" == Str.ofString "rule") = false from by decide +kernel, if_neg (by decide)]
    refine x_nil (seq_next ?_)
    refine x_if ?_
    refine t_eqE D₄ lk_hd fun s₄ D₄ => ?_
    first | refine if_no (show (Str.ofString "turn" == Str.ofString "under") = false from (by decide +kernel)) ?_ | rw [show (Str.ofString "turn" == Str.ofString "under") = false from by decide +kernel, if_neg (by decide)]
    refine x_nil (seq_next ?_)
    obtain ⟨v1, hv1, hR1⟩ := hvr.at 0 r rfl
    refine x_asg ?_
    refine Call_ ?_
    refine n_glbE D₄ (mg_some hs.st fmg_paperof) ?_
    refine callWith_K D₄.hs.X k330 (spliced_more ?_)
    refine Subscript_ ?_
    refine n_cell D₄ (.head _) ?_
    refine e_int D₄ fun s₆ t₆ D₆ => ?_
    refine li_get (D₆.at hla) (k := 1) (v := v1) rfl (by decide) (by simpa using hv1) ?_
    refine spliced_none ⟨D₆.hs.X, ?_⟩
    refine ih k (Nat.lt_succ_self _) r t hr _ _ _ _ _ _ D₆.hs (show A.depth + 1 + k + 8 ≤ 990 by lia) hh hR1 fun s₇ v7 H₇ hr7 => ?_
    have D₇ := D₆.back0 H₇
    have hr7' := D₇.rep ntc hr7
    obtain ⟨Da, ga⟩ := D₇.anew
    refine s_locE Da fun s₈ D₈ => ?_
    simp only [List.length_cons, List.length_nil] at hvl
    refine x_forH fun Q₁ E₁ hQ₁ hE₁ => ?_
    refine Subscript_ ?_
    refine n_cell D₈ (.head _) ?_
    refine wpAny_Slice (ep_some ?_)
    refine e_int D₈ fun s₉ t₉ D₉ => ?_
    refine ep_none (ep_none ?_)
    refine sl_gr (a := 2) (D₉.pushed _ rfl) ((D₉.pushed _ rfl).at (ga _ _ hla)) ⟨_, Heap.get?_push_size _ rfl, rfl, rfl⟩ (by simp only [List.length_cons]; lia) (by simp only [List.length_cons]; lia) fun b s₁₀ G₁₀ k₁₀ D₁₀ g₁₀ hb => ?_
    refine it_list D₁₀ (D₁₀.at hb) fun I s₁₁ D₁₁ _ => ?_
    have hdr : (Value.str (Str.ofString "turn") t0 :: vr).drop 2 = [] := List.drop_of_length_le (by simp only [List.length_cons]; lia)
    rw [hdr] at hb
    refine ⟨fun i s' => Led W G₁₀ L _ ((I, isIt "list_iterator" (.ref b) 0) :: _) s', 0, D₁₁, fun s' D' => ?_, fun B₁ T₁ hB₁ hT₁ i s' hi => absurd hi (Nat.not_lt_zero _)⟩
    refine end_list hh D' (D'.at hb) rfl fun s₁₂ D₁₂ _ => ⟨rfl, ?_⟩
    refine x_ret ?_
    refine IfExp_ ?_
    refine t_eqE D₁₂ (lk_tl lk_hd) fun s₁₃ D₁₃ => ?_
    first | refine if_yes (show (Str.ofString "turn" == Str.ofString "turn") = true from (by decide +kernel)) ?_ | rw [show (Str.ofString "turn" == Str.ofString "turn") = true from by decide +kernel, if_pos rfl]
    refine Tuple_ ?_
    refine spliced_more (e_str D₁₃ fun s₁₄ tk D₁₄ => ?_)
    refine spliced_more (nmE D₁₄ lk_hd ?_)
    refine spliced_none ?_
    exact t_fin D₁₄ (.cons .leaf (.cons (hr7'.mono g₁₀) .nil)) (by size_fits) (fun b o z => g₁₀ b o (ga b o z)) hs.all.top fun s' v' H' r' => by subst hQ₁; exact ret_v (kk _ _ H' r')
  | @join k r1 t1 rs ts hr hz hlen hkids =>
    first | refine if_no (show (Str.ofString "join" == Str.ofString "same") = false from (by decide +kernel)) ?_ | rw [show (Str.ofString "join" == Str.ofString "same") = false from by decide +kernel, if_neg (by decide)]
    refine x_nil (seq_next ?_)
    refine x_if ?_
    refine t_eqE D₄ lk_hd fun s₄ D₄ => ?_
    first | refine if_no (show (Str.ofString "join" == Str.ofString "told") = false from (by decide +kernel)) ?_ | rw [show (Str.ofString "join" == Str.ofString "told") = false from by decide +kernel, if_neg (by decide)]
    refine x_nil (seq_next ?_)
    refine x_if ?_
    refine t_eqE D₄ lk_hd fun s₄ D₄ => ?_
    first | refine if_no (show (Str.ofString "join" == Str.ofString "rule") = false from (by decide +kernel)) ?_ | rw [show (Str.ofString "join" == Str.ofString "rule") = false from by decide +kernel, if_neg (by decide)]
    refine x_nil (seq_next ?_)
    refine x_if ?_
    refine t_eqE D₄ lk_hd fun s₄ D₄ => ?_
    first | refine if_no (show (Str.ofString "join" == Str.ofString "under") = false from (by decide +kernel)) ?_ | rw [show (Str.ofString "join" == Str.ofString "under") = false from by decide +kernel, if_neg (by decide)]
    refine x_nil (seq_next ?_)
    obtain ⟨v1, hv1, hR1⟩ := hvr.at 0 r1 rfl
    have hvr1 : RepLs s.heap (vr.drop 1) rs := hvr.drop 1
    have hvr1l := hvr1.len
    refine x_asg ?_
    refine Call_ ?_
    refine n_glbE D₄ (mg_some hs.st fmg_paperof) ?_
    refine callWith_K D₄.hs.X k330 (spliced_more ?_)
    refine Subscript_ ?_
    refine n_cell D₄ (.head _) ?_
    refine e_int D₄ fun s₆ t₆ D₆ => ?_
    refine li_get (D₆.at hla) (k := 1) (v := v1) rfl (by decide) (by simpa using hv1) ?_
    refine spliced_none ⟨D₆.hs.X, ?_⟩
    refine ih k (Nat.lt_succ_self _) r1 t1 hr _ _ _ _ _ _ D₆.hs (show A.depth + 1 + k + 8 ≤ 990 by lia) hh hR1 fun s₇ v7 H₇ hr7 => ?_
    have D₇ := D₆.back0 H₇
    have hr7' := D₇.rep ntc hr7
    obtain ⟨Da, ga⟩ := D₇.anew
    refine s_locE Da fun s₈ D₈ => ?_
    simp only [List.length_cons] at hvl
    refine x_forH fun Q₁ E₁ hQ₁ hE₁ => ?_
    refine Subscript_ ?_
    refine n_cell D₈ (.head _) ?_
    refine wpAny_Slice (ep_some ?_)
    refine e_int D₈ fun s₉ t₉ D₉ => ?_
    refine ep_none (ep_none ?_)
    refine sl_gr (a := 2) (D₉.pushed _ rfl) ((D₉.pushed _ rfl).at (ga _ _ hla)) ⟨_, Heap.get?_push_size _ rfl, rfl, rfl⟩ (by simp only [List.length_cons]; lia) (by simp only [List.length_cons]; lia) fun b s₁₀ G₁₀ k₁₀ D₁₀ g₁₀ hb => ?_
    refine it_list D₁₀ (D₁₀.at hb) fun I s₁₁ D₁₁ _ => ?_
    have hdr : (Value.str (Str.ofString "join") t0 :: vr).drop 2 = vr.drop 1 := rfl
    rw [hdr] at hb
    refine ⟨PofI W I b L a t0 ts t1 G₁₀, rs.length, ?_, ?_, ?_⟩
    · exact ⟨v7, [("found", v7), ("kind", .str "join" t0)], G₁₀, D₁₁, lk_hd, lk_tl lk_hd, by rw [List.take_zero]; exact hr7'.mono g₁₀, fun _ _ z => z⟩
    · rintro s' ⟨vf, mI, G', D', l1, l2, hrf, g'⟩
      refine end_list hh D' (D'.at (g' _ _ hb)) (by simp; lia) fun s₁₂ D₁₂ _ => ⟨rfl, ?_⟩
      rw [hlen, List.take_of_length_le (Nat.le_refl _)] at hrf
      refine x_ret ?_
      refine IfExp_ ?_
      refine t_eqE D₁₂ l2 fun s₁₃ D₁₃ => ?_
      first | refine if_no (show (Str.ofString "join" == Str.ofString "turn") = false from (by decide +kernel)) ?_ | rw [show (Str.ofString "join" == Str.ofString "turn") = false from by decide +kernel, if_neg (by decide)]
      refine nmE D₁₃ l1 ?_
      subst hQ₁
      exact ret_v (kk _ _ (D₁₃.lo (fun b o z => g' b o (g₁₀ b o (ga b o z))) hs.all.top).hs (hrf.mono D₁₃.hs.keep))
    · rintro B₁ T₁ hB₁ hT₁ i s' hi ⟨vf, mI, G', D', l1, l2, hrf, g'⟩
      obtain ⟨r, hr⟩ : ∃ r, rs[i]? = some r := ⟨_, List.getElem?_eq_getElem hi⟩
      obtain ⟨t, ht⟩ : ∃ t, ts[i]? = some t := ⟨_, List.getElem?_eq_getElem (by lia)⟩
      obtain ⟨vi, hvi, hRi⟩ := hvr1.at i r hr
      refine nx_list D' (D'.at (g' _ _ hb)) (by simpa using hvi) fun s₁₂ D₁₂ _ => ⟨_, rfl, wpAny_of_eq (a := ()) rfl (a_locE D₁₂ fun s₁₃ D₁₃ => ?_)⟩
      refine x_asg ?_
      refine Tuple_ ?_
      refine spliced_more (e_str D₁₃ fun s₁₄ tk D₁₄ => ?_)
      refine spliced_more (nmE D₁₄ (lk_tl l1) ?_)
      refine spliced_more ?_
      refine Call_ ?_
      refine n_glbE D₁₄ (mg_some hs.st fmg_paperof) ?_
      refine callWith_K D₁₄.hs.X k330 (spliced_more ?_)
      refine nmE D₁₄ lk_hd ?_
      refine spliced_none ⟨D₁₄.hs.X, ?_⟩
      refine ih k (Nat.lt_succ_self _) r t (hkids i r t hr ht) _ _ _ _ _ _ D₁₄.hs (show A.depth + 1 + k + 8 ≤ 990 by lia) hh (hRi.mono fun b o z => g' b o (g₁₀ b o (ga b o z))) fun s₁₅ v15 H₁₅ hr15 => ?_
      have D₁₅ := D₁₄.back0 H₁₅
      have nti : ∀ p ∈ [(I, isIt "list_iterator" (.ref b) (i + 1)), ((L + 1, isC (some (Value.ref a))) : Addr × (Obj → Prop))], ∀ o, p.2 o → notTup o := fun p hp o ho => by
        rcases List.mem_cons.mp hp with rfl | hp
        · intro vs n z
          have h1 := ho.1
          rw [z] at h1
          exact absurd h1 (show (Value.type "tuple" : Value) ≠ .type "list_iterator" from by decide)
        · exact ntc p hp o ho
      have hr15' := D₁₅.rep nti hr15
      obtain ⟨Db, gb⟩ := D₁₅.anew
      refine spliced_none ?_
      refine t_gr Db (by size_fits) fun at_ s₁₆ G₁₆ D₁₆ g₁₆ hat => ?_
      refine s_locE D₁₆ fun s₁₇ D₁₇ => ?_
      subst hB₁
      refine x_nil ⟨.ref at_, ("found", .ref at_) :: ("one", vi) :: mI, G₁₆, D₁₇, lk_hd, lk_tl (lk_tl l2), ?_, fun b o z => g₁₆ b o (gb b o (g' b o z))⟩
      rw [List.take_add_one, ht, List.foldl_append]
      exact .node hat (.cons .leaf (.cons ((hrf.mono gb).mono g₁₆) (.cons (hr15'.mono g₁₆) .nil)))
theorem c_paperof : ∀ (k : Nat) (raw t : Tr), PapOf k raw t → CPO W k raw t := by
  intro k
  induction k using Nat.strongRecOn with
  | _ k ih => exact fun raw t hT => c_paperof1 k ih raw t hT
end
end Mine
end

section
open PySem PySem.W PyProof.Rows PySem.Calls PySem.Spec
set_option autoImplicit false
namespace Mine
theorem warmsr (w : World) (h : Heap) : (hd.heap_39 w.params).In h → PySem.Challenge.rw_rh0003_01.prog = PySem.Challenge.rw_rh0003_01.prog := by
  k_fill
  intro _
  rfl
/-- the tree as data -/
noncomputable def Tr.dat : Tr → PyData
  | .leaf w => .str w
  | .node l => .tuple (l.attach.map fun ⟨t, _⟩ => t.dat)
theorem dat_node (l : List Tr) : (Tr.node l).dat = .tuple (l.map Tr.dat) := by
  rw [Tr.dat]
  congr 1
  exact List.attach_map_val (l := l) (f := Tr.dat)
theorem rep_reads {h : Heap} {v : Value} {t : Tr} (x : Rep h v t) : ∃ as, Reads h v t.dat as := by
  induction x using Rep.rec (motive_2 := fun vs l _ => ∃ as, ReadsAll h vs (l.map Tr.dat) as) with
  | leaf => exact ⟨_, by rw [Tr.dat]; exact .str _ _⟩
  | node e _ ih =>
    obtain ⟨as, ih⟩ := ih
    exact ⟨as, by rw [dat_node]; exact .tuple e rfl rfl ih⟩
  | nil => exact ⟨_, .nil⟩
  | cons _ _ i1 i2 =>
    obtain ⟨as, i1⟩ := i1
    obtain ⟨bs, i2⟩ := i2
    exact ⟨_, .cons i1 i2⟩
mutual
theorem eqv_refl0 : ∀ (d : PyData), PyData.canLay0 d = true → PyData.eqv d d = true
  | .none, _ => rfl
  | .bool b, _ => by simp [PyData.eqv]
  | .int i, _ => by simp [PyData.eqv]
  | .str x, _ => by simp [PyData.eqv]
  | .list xs, h2 => by rw [PyData.eqv]; rw [PyData.canLay0] at h2; exact eqv_reflAll xs h2
  | .tuple xs, h2 => by rw [PyData.eqv]; rw [PyData.canLay0] at h2; exact eqv_reflAll xs h2
  | .dict _, h2 => by rw [PyData.canLay0] at h2; cases h2
theorem eqv_reflAll : ∀ (ds : List PyData), PyData.canLayAll0 ds = true → PyData.eqvAll ds ds = true
  | [], _ => by simp [PyData.eqvAll]
  | d :: ds, h => by
    rw [PyData.canLayAll0, Bool.and_eq_true] at h
    rw [PyData.eqvAll, Bool.and_eq_true]
    exact ⟨eqv_refl0 d h.1, eqv_reflAll ds h.2⟩
end
section
variable {W : Wd} {G : Heap} {L : Addr} {m : List (Str × Value)} {news news' pre post : List (Addr × (Obj → Prop))} {s : Shared} {A : Around} {E : Value → Shared → Prop} {env : Env} {v : Value} {pos : Pos}
  {Q : Value → Shared → Prop} {fs : List Env} {n B : Nat} {l : Addr}
theorem fmg_reader : nsIn (hd.heap_39 W.w.params) mainGlobals "Reader" = some (some (.ref 258)) := by k_is
theorem kp258 : keepIn (hd.heap_39 W.w.params) (.ref 258) = true := by k_is
theorem ga76 : findIn (hd.heap_39 W.w.params) (.ref 76) "__getattribute__" = some (some (.builtin "BaseException.__getattribute__")) := by k_is
theorem gt76 : findIn (hd.heap_39 W.w.params) (.ref 76) "__getattr__" = some none := by k_is
theorem sp76 : findIn (hd.heap_39 W.w.params) (.ref 76) "spot" = some none := by k_is
theorem hd76 : hasDictIn (hd.heap_39 W.w.params) 76 = true := by k_is
theorem be76 : mroIn (hd.heap_39 W.w.params) 76 (.type "BaseException") = some true := by k_is
theorem gaE : Slot "Exception" "__getattribute__" "BaseException.__getattribute__" := PySem.F.attr_Exception.ga
theorem e_attr {e xd : Addr} {oe od : Obj} {vs : Array Value} {sp : Int} {expr : Bool} (X : (hd.heap_39 W.w.params).In s.heap) (hx : s.heap.get? e = some oe) (hc : oe.cls = .ref 76) (hdc : oe.dict = some xd) (hda : oe.data = .fields vs) (hxd : s.heap.get? xd = some od) (hod : isF sp od)
    (h : ∀ t', Q (.int sp t') { s with toks := s.toks + 1 }) : wpAny (model pw W.w) A (getAttr (.ref e) "spot" expr) Q E s := by
  refine hideP fun PH1 hPH1 => ?_
  obtain ⟨h₁, t₁, v₁, h₂, t₂, t₃, rfl⟩ := hod
  subst hPH1
  have I : PySem.W.InstAt s.heap e oe 76 (some (dictOf [⟨h₁, .str "what" t₁, v₁⟩, ⟨h₂, .str "spot" t₂, .int sp t₃⟩] 2)) := ⟨hx, hc, by (obtain ⟨_, _, _, _⟩ := oe; cases hda; rfl), by rw [hdc]; exact hxd⟩
  have hfind : findObj (hd.heap_39 W.w.params) 76 (some (dictOf [⟨h₁, .str "what" t₁, v₁⟩, ⟨h₂, .str "spot" t₂, .int sp t₃⟩] 2)) "spot" = some (.value (.int sp t₃)) := findObj_own hd76 sp76 rfl rfl
  refine hideP fun PH2 hPH2 => ?_
  obtain ⟨hh, g, d, t, os⟩ := s
  subst hPH2
  have L0 := I.type (M := model pw W.w)
  have L1 := looks_findIn (M := model pw W.w) X ga76
  have L2 := looks_findIn (M := model pw W.w) X gt76
  have L3 := looks_find (M := model pw W.w) X I hfind
  have L4 : Looks (model pw W.w) hh (isInstance (.ref e) (.type "BaseException")) true := L0.andThen (looks_mroIn X be76)
  unfold getAttr getAttrBy
  refine wpAny_bind (wpAny_mkText (wpAny_holding (wpAny_bind (L0.at (wpAny_bind (L1.at ?_))))))
  show wpAny _ _ (getAttrByItsOwn (.ref e) (.str "spot" t) (.ref 76) (.builtin "BaseException.__getattribute__") true expr) _ _ _
  unfold getAttrByItsOwn hookBefore callGetattribute boundAndCalled
  rw [if_pos (show onTheHeap (.ref 76) = true from rfl)]
  refine wpAny_bind (L2.at ?_)
  have he : (expr && onTheHeap (Value.builtin "BaseException.__getattribute__")) = false := by cases expr <;> rfl
  rw [he, if_neg (by decide)]
  refine wpAny_bind (wpAny_attempt (wpAny_holding ?_))
  rw [gaE.bind]
  refine wpAny_bind (wpAny_pure ?_)
  refine wpAny_call ?_
  refine codeAny_call_builtin gaE.plain PySem.F.entry_bexc_ga (@check_slot (model pw W.w) _ _ _ "BaseException.__getattribute__" "BaseException" "__getattribute__" (.ref e) [.str "spot" t] [] _ (by decide +kernel) (by decide +kernel) L4 (PySem.F.args_bexc_ga _ _) ?_)
  unfold Builtin.«object.__getattribute__»
  refine wpAny_bind (wpAny_pure (wpAny_bind (wpAny_pure (wpAny_bind (L0.at (wpAny_bind (L3.at ?_)))))))
  refine wpAny_pure ?_
  exact wpAny_pure (h _)
end
end Mine
end

section
open PySem PySem.W PyProof.Rows PySem.Calls PySem.Spec
set_option autoImplicit false
namespace Mine
theorem warmst (w : World) (h : Heap) : (hd.heap_39 w.params).In h → PySem.Challenge.rw_rh0003_01.prog = PySem.Challenge.rw_rh0003_01.prog := by
  k_fill
  intro _
  rfl
noncomputable def BackF (W : Wd) (fs : List Env) (s s' : Shared) : Prop := Hs W (hid s.heap (frs fs)) s' ∧ ∀ b o, b ∈ frs fs → s.heap.get? b = some o → ∃ sl, s'.heap.get? b = some { o with slots := sl }
structure Read (wl : List Str) (cs sp : List Nat) (ws : List (Str × Int)) (k0 mm : Nat) (bb : Bool) (res : Res) : Prop where
  al : ∀ w ∈ wl, w ∈ alpha
  len : wl.length ≤ 500
  lay : Laid false wl cs 0 sp
  clen : cs.length ≤ 10000
  slen : sp.length = wl.length
  weq : ws = ((wl.zip sp) ++ [(("" : Str), cs.length)]).map (fun q => (q.1, (q.2 : Int)))
  ends : Ends ws
  vars : ∀ q, isVar (nw ws q) = true → nw ws q = "?x" ∨ nw ws q = "?y"
  gone : GN ws k0 0 ["paper"] [] mm bb
  rd : PP ws 0 0 res
  ok : ∀ t p', res = .ok t p' → bb = true ∧ mm = p' ∧ PyData.canLay0 t.dat = true ∧ PyData.depth t.dat ≤ 1500 ∧ ∃ raw kk, pfold (wl.take mm) [[]] = some [[raw]] ∧ PapOf kk raw t ∧ kk ≤ 500
  er : ∀ q, res = .er q → bb = false ∧ mm = q
section
variable {wl : List Str} {cs sp : List Nat} {ws : List (Str × Int)} {k0 mm : Nat} {bb : Bool} {res : Res}
theorem Read.wlen (R : Read wl cs sp ws k0 mm bb res) : ws.length = wl.length + 1 := by
  rw [R.weq, List.length_map, List.length_append, List.length_zip, R.slen]; simp
theorem Read.at (R : Read wl cs sp ws k0 mm bb res) {i : Nat} (hi : i ≤ wl.length) : ∃ w s, (wl ++ [("" : Str)])[i]? = some w ∧ (sp ++ [cs.length])[i]? = some s ∧ ws[i]? = some (w, (s : Int)) := by
  have hsl := R.slen
  rw [R.weq]
  by_cases h : i < wl.length
  · obtain ⟨w, hw⟩ : ∃ w, wl[i]? = some w := ⟨_, List.getElem?_eq_getElem h⟩
    obtain ⟨s, hs⟩ : ∃ s, sp[i]? = some s := ⟨_, List.getElem?_eq_getElem (by lia)⟩
    refine ⟨w, s, by rw [List.getElem?_append_left h]; exact hw, by rw [List.getElem?_append_left (by lia)]; exact hs, ?_⟩
    rw [List.getElem?_map, List.getElem?_append_left (by rw [List.length_zip]; lia), List.getElem?_zip_eq_some (z := (w, s)) |>.mpr ⟨hw, hs⟩]
    rfl
  · have e : i = wl.length := by lia
    subst e
    refine ⟨"", cs.length, by simp, by rw [← hsl]; simp, ?_⟩
    rw [List.getElem?_map, List.getElem?_append_right (by rw [List.length_zip]; lia), List.length_zip, hsl]
    simp
theorem Read.nwsp (R : Read wl cs sp ws k0 mm bb res) {i : Nat} (hi : i ≤ wl.length) : (wl ++ [("" : Str)])[i]? = some (nw ws i) ∧ ∃ s : Nat, (sp ++ [cs.length])[i]? = some s ∧ ns ws i = (s : Int) := by
  refine hideP fun PH1 hPH1 => ?_
  obtain ⟨w, s, h1, h2, h3⟩ := R.at hi
  subst hPH1
  have h4 := nw_at (ws := ws) (p := i) (by rw [R.wlen]; lia)
  rw [h3] at h4
  simp only [Option.some.injEq, Prod.mk.injEq] at h4
  exact ⟨by rw [← h4.1]; exact h1, s, h2, h4.2.symm⟩
theorem Read.nwat (R : Read wl cs sp ws k0 mm bb res) : ∀ (i : Nat) (w : Str), (wl ++ [("" : Str)])[i]? = some w → nw ws i = w := by
  intro i w h
  have hi := (List.getElem?_eq_some_iff.mp h).1
  have := (R.nwsp (i := i) (by simp at hi; lia)).1
  rw [h] at this
  exact (Option.some.inj this).symm
theorem Read.sz (R : Read wl cs sp ws k0 mm bb res) : ∀ (i : Nat) (w : Str), (wl ++ [("" : Str)])[i]? = some w → (w.cps.all (· < 128)) = true ∧ w.cps.size ≤ 5 := by
  intro i w h
  have hm := List.mem_of_getElem? h
  rcases List.mem_append.mp hm with hm | hm
  · have := alpha_ok w (R.al w hm); exact ⟨this.1, this.2.1⟩
  · rw [List.mem_singleton.mp hm]; decide +kernel
theorem laid_ascii {b : Bool} {o : Nat} {wl : List Str} {cs sp : List Nat} (h : Laid b wl cs o sp) : ∀ x ∈ cs, x < 128 := by
  induction h with
  | nil => intro x hx; simp at hx
  | blank _ ih =>
    intro x hx
    rcases List.mem_cons.mp hx with rfl | hx
    · lia
    · exact ih x hx
  | @word _ _ w _ _ _ _ h2 _ ih =>
    intro x hx
    rcases List.mem_append.mp hx with hx | hx
    · have := (alpha_ok w h2).1
      rw [← Array.all_toList, List.all_eq_true] at this
      have := this x hx
      simpa using this
    · exact ih x hx
theorem Read.rdr (R : Read wl cs sp ws k0 mm bb res) {G : Heap} {x dx : Addr} {r : RK} {vals : List Value} {n' : Nat} (hx : G.get? x = some (instObj 258 dx)) (hl : G.get? r.lw = some (lstOf vals.toArray n')) (hW : WL G vals ((wl.zip sp) ++ [(("" : Str), cs.length)])) : Rdr G x dx r ws := by
  refine ⟨hx, ⟨_, n', hl, fun i w s e => ?_⟩, by rw [R.wlen]; have := R.len; lia, fun q hq => ?_⟩
  · rw [R.weq, List.getElem?_map] at e
    obtain ⟨q, hq, he⟩ := Option.map_eq_some_iff.mp e
    obtain ⟨q1, q2⟩ := q
    simp only [Prod.mk.injEq] at he
    obtain ⟨rfl, rfl⟩ := he
    refine hideP fun PH2 hPH2 => ?_
    obtain ⟨ta, k, t, t', h1, h2⟩ := hW.2 i q1 q2 hq
    subst hPH2
    exact ⟨ta, k, t, t', by simpa using h1, h2⟩
  · obtain ⟨i, hi⟩ := List.getElem?_of_mem hq
    have hil := (List.getElem?_eq_some_iff.mp hi).1
    rw [R.wlen] at hil
    refine hideP fun PH3 hPH3 => ?_
    obtain ⟨w, s, h1, h2, h3⟩ := R.at (i := i) (by lia)
    subst hPH3
    rw [hi] at h3
    cases h3
    have := R.sz i w h1
    exact ⟨this.1, by have := this.2; show w.cps.size ≤ 100; lia⟩
end
section
variable {W : Wd} {G : Heap} {L : Addr} {m : List (Str × Value)} {news news' pre post : List (Addr × (Obj → Prop))} {s : Shared} {A : Around} {E : Value → Shared → Prop} {env : Env} {v : Value} {pos : Pos}
  {Q : Value → Shared → Prop} {fs : List Env} {n B : Nat} {l : Addr}
  {wl : List Str} {cs sp : List Nat} {ws : List (Str × Int)} {k0 mm : Nat} {bb : Bool} {res : Res}
theorem fmg_isread : nsIn (hd.heap_39 W.w.params) mainGlobals "_law_is_read" = some (some (.ref 337)) := by k_is
theorem k337 : keepIn (hd.heap_39 W.w.params) (.ref 337) = true := by k_is
theorem Led.caught {fr : Env} {s₁ : Shared} {h' : Heap} {e : Addr} {sp : Int} {ds : List Addr} {tb : Option Value} (D : Led W G L m news s) (hf : fr.frame = some L) (X : Exn s.heap (fr :: fs) ds e sp tb h') (hg : s₁.gens = W.gens) (ho : s₁.os = W.os)
    (hWf : ∀ b ∈ frs fs, W.H.get? b = none) (hWL : W.H.get? L = none) (hWd : ∀ b ∈ ds, W.H.get? b = none) : Led W (hid h' [L]) L m [] { s₁ with heap := h' } := by
  obtain ⟨m₀, ⟨oL, es, ep, hoL, r⟩, hm⟩ := D.ns
  have hfr : frs (fr :: fs) = L :: frs fs := by unfold frs; rw [List.filterMap_cons, hf]
  obtain ⟨sl, hsl⟩ := X.slots L oL hoL (by rw [hfr]; exact .head _)
  refine ⟨⟨D.hs.st, fun b o q => ?_, hid_in, hg, ho⟩, ⟨m₀, ⟨_, es, ep, hsl, r⟩, hm⟩, hid_none (.head _), (fun _ h => nomatch h), List.nodup_nil⟩
  have hbL : b ≠ L := fun z => by rw [z, hWL] at q; cases q
  refine hid_get (X.keep b o (D.hs.keep b o (D.hs.top b o q)) ?_ ?_) (by simpa using hbL)
  · rw [hfr]
    intro z
    rcases List.mem_cons.mp z with z | z
    · exact hbL z
    · rw [hWf b z] at q; cases q
  · intro z
    rw [hWd b z] at q; cases q
/-- l[:a] in the ground -/
theorem sl_to {value slice : Expr} {l sl : Addr} {vs : List Value} {k a : Nat} {u : Tok} (D : Led W G L m news s) (hl : s.heap.get? l = some (lstOf vs.toArray k)) (hs : s.heap.IsSliceOf sl .none (.int (a : Int) u) .none) (ha : a ≤ vs.length) (hz : vs.length ≤ 100000)
    (h : ∀ b s' G' k', Led W G' L m news s' → G.StaysIn G' → G'.get? b = some (lstOf (vs.take a).toArray k') → Q (.ref b) s')
    (he : subscripted slice false (.ref l) (.ref sl) = operate [.ref sl, .ref l] (getItem (.ref l) (.ref sl)) := by with_unfolding_all rfl) :
    wpAny (model pw W.w) A (subscriptTail value slice (.ref l) (.ref sl)) Q E s := by
  refine li_slice D hl hs .none (.int _ _) (by rw [List.size_toArray, sizeLine_eq]; lia) (fun b s' D' => ?_) he
  rw [to_slice ha] at D'
  obtain ⟨k', e⟩ := isL_get (D'.get (.head _))
  obtain ⟨G', D₂, g, e'⟩ := gr_of D' e
  exact h _ _ _ _ D₂ g e'
theorem ints_nth : ∀ {vs : List Value} {is : List Int}, IntsAre vs is → ∀ (i : Nat) (z : Int), is[i]? = some z → ∃ t : Tok, vs[i]? = some (.int z t)
  | _, _, .nil, i, z, h => by simp at h
  | _, _, .cons x t h, 0, z, hz => by cases hz; exact ⟨t, rfl⟩
  | _, _, .cons x t h, i + 1, z, hz => ints_nth h i z (by simpa using hz)
theorem c_isread {lw ls : Addr} {tt : Tok} (R : Read wl cs sp ws k0 mm bb res) (hs : Hs W G s) (ff : G.FunFrames {} fs) (hfW : ∀ b ∈ frs fs, W.H.get? b = none) (hlf : ls ∉ frs fs) (c : Cx A fs (n + 150)) (hd3 : A.depth ≤ 400) (hS : StrL G lw wl) (hSp : ∃ spv k, G.get? ls = some (lstOf (spv : List Value).toArray k) ∧ IntsAre spv ((sp ++ [cs.length]).map Int.ofNat))
    (k : ∀ s', BackF W fs s s' → Q (.bool true) s') :
    wpAny (model pw W.w) A (call (.ref 337) [.str (txt cs) tt, .ref lw, .ref ls]) Q E s := by
  obtain ⟨vs, nl, hl, hSt⟩ := hS.mono hs.keep
  have hlen : vs.length = wl.length := strs_len hSt
  obtain ⟨spv, ks, hls, hSI⟩ := hSp
  have hls := hs.keep _ _ hls
  have hsl := R.slen
  have hwl5 := R.len
  refine enterC [("spots", .ref ls), ("words", .ref lw), ("text", .str (txt cs) tt)] (news := []) hs.all (fun _ h => nomatch h) List.nodup_nil (by k_is) (by k_is) c.room rfl rfl rfl rfl rfl (by decide) fun L s₁ D stk hL => ?_
  refine hide fun Qe Ee hQe hEe => ?_
  have cd := c.deep
  have hun := c.un
  refine x_asgT ?_
  refine Call_ ?_
  refine n_glb D (mg_some hs.st fmg_gone) ?_
  refine callWith_K D.hs.X k313 (spliced_more ?_)
  refine n_loc D (lk_tl lk_hd) ?_
  refine spliced_none ⟨D.hs.X, ?_⟩
  refine c_gone D.hs (show A.depth + 1 + 5 ≤ 990 by lia) c.hd (show A.units + 3 + 100 < 9900 by lia) ⟨vs, nl, hl, hSt⟩ (by lia) R.nwat (fun i w h => by have := (R.sz i w h).2; rw [sizeLine_eq]; show w.cps.size ≤ _; lia) R.gone fun s₂ ta n1 t1 H₂ hta hmm => ?_
  have D₂ := D.back0 H₂
  refine wpAny_assign_Tuple c.hd (isTuple_of hta) rfl rfl fun h' he => ?_
  have D₃ := D₂.kept (s' := { s₂ with heap := h' }) fun b o e => he b o (Nat.ne_of_lt (Heap.lt_size e)) e
  show wpAny (model pw W.w) _ (assignInOrder [assign _ _, assign _ _] [_, _]) _ _ _
  refine assignInOrder_cons (wpAny_assign_Name (s_loc D₃ fun s₄ D₄ => ?_))
  refine assignInOrder_cons (wpAny_assign_Name (s_loc D₄ fun s₅ D₅ => ?_))
  refine assignInOrder_nil ?_
  refine x_asg ?_
  refine Call_ ?_
  refine n_glb D₅ (mg_some hs.st fmg_reader) ?_
  refine callWith_K D₅.hs.X kp258 (spliced_more ?_)
  refine n_loc D₅ (lk_tl (lk_tl (lk_tl (lk_tl lk_hd)))) ?_
  refine spliced_none ⟨D₅.hs.X, ?_⟩
  refine c_reader (n := n + 100) D₅.hs ((cd _).less (by lia)) (laid_ascii R.lay) (by have := R.clen; lia) (by have := laid_lx R.lay [] rfl; simpa using this) (by rw [List.length_zip]; lia) fun s₆ x dx r vals n' H₆ nx0 nd0 nlw hxdx hlwdx hx hdx hlst hW => ?_
  have D₆ := D₅.back0 H₆
  have gn : ∀ a, s₅.heap.get? a = none → a ≠ L := fun a ha z => by
    obtain ⟨m₀, ⟨oL, es, ep, hoL, _⟩, _⟩ := D₅.ns
    rw [z, hoL] at ha; cases ha
  have D₇ := D₆.more (d := dx) (P := isR r 0 0) hdx (by
    cases q : s.heap.get? dx with
    | none => rfl
    | some o => rw [D₅.hs.keep _ _ q] at nd0; cases nd0) (gn _ nd0) (fun _ h => nomatch h)
  obtain ⟨D₈, g₈⟩ := D₇.anew
  have ntR : ∀ p ∈ [((dx, isR r 0 0) : Addr × (Obj → Prop))], ∀ o, p.2 o → notTup o := fun p hp o ho => by rw [List.mem_singleton.mp hp] at ho; exact isR_nt o ho
  have Rd : Rdr (hid s₆.heap (L :: [(dx, isR r 0 0)].map (·.1))) x dx r ws := R.rdr (hid_get hx (by simp; exact ⟨gn _ nx0, hxdx⟩)) (hid_get hlst (by simp; exact ⟨gn _ nlw, hlwdx⟩)) (hW.gr D₇ ntR)
  refine gen (hid s₆.heap (L :: [(dx, isR r 0 0)].map (·.1))) fun G₈ hG₈ => ?_
  rw [hG₈] at D₈ g₈ Rd
  refine s_loc D₈ fun s₉ D₉ => ?_
  refine wpAny_execs_cons (wpAny_Try_except ?_)
  refine hide fun Q₁ E₁ hQ₁ hE₁ => ?_
  have f₈ : G₈.FunFrames {} fs := ffs ff fun b o e => g₈ b o (hs.keep b o e)
  refine x_asg ?_
  refine r_call0 D₉ lk_hd Rd.inst (D₉.get (.head _)) rf_paper i255 k255 ?_
  refine c_paper R.ends (c_places R.ends R.vars) ws.length 0 0 (by lia) res R.rd _ _ _ _ (n + 149) _ _ D₉.sH (D₉.sF f₈) (c.deep _) (by lia) (Rd.mono D₉.sG) sN (D₉.get (.head _)) (by rw [R.wlen]; lia) (fun t p' hr s₁₀ vf H₁₀ h₁₀ hvf hp' => ?_) (fun q hr e s₁₀ X => ?_)
  · refine hideP fun PH4 hPH4 => ?_
    obtain ⟨hb, hm, hlay, hdep, raw, kk, hpf, hpap, hkk⟩ := R.ok t p' hr
    subst hPH4
    subst hb
    subst hm
    have D₁₀ := D₉.back1 (pre := []) H₁₀ h₁₀
    have ntR' : ∀ p ∈ [((dx, isR r mm 0) : Addr × (Obj → Prop))], ∀ o, p.2 o → notTup o := fun p hp o ho => by rw [List.mem_singleton.mp hp] at ho; exact isR_nt o ho
    obtain ⟨G₁₁, D₁₁, g₁₁, hvf'⟩ : ∃ G₁, Led W G₁ L _ [(dx, isR r mm 0)] s₁₀ ∧ G₈.StaysIn G₁ ∧ Rep G₁ vf t := ⟨_, D₁₀.anew.1, D₁₀.anew.2, D₁₀.rep ntR' hvf⟩
    have Rd' := Rd.mono g₁₁
    have gs : s.heap.StaysIn G₁₁ := fun b o e => g₁₁ b o (g₈ b o e)
    refine s_loc D₁₁ fun s₁₂ D₁₂ => x_nil ?_
    subst hQ₁
    refine x_nil ?_
    show wpAny (model pw W.w) _ (execs _ _) _ _ _
    refine hide fun Q₂ E₂ hQ₂ hE₂ => ?_
    refine x_if ?_
    refine isTrue_or ?_
    refine wpAny_isTrue_Not ?_
    refine PyProof.Rows.isTrue_plain ?_
    refine n_loc D₁₂ (lk_tl (lk_tl lk_hd)) ?_
    refine wpAny_truthy_bool ?_
    first | refine if_no rfl ?_ | rw [if_neg (by decide)]
    refine isTrue_or ?_
    refine wpAny_isTrue_Compare1 ?_
    refine n_loc D₁₂ lk_hd ?_
    refine Call_ ?_
    refine n_glb D₁₂ (mg_some hs.st fmg_paperof) ?_
    refine callWith_K D₁₂.hs.X k330 (spliced_more ?_)
    refine Call_ ?_
    refine n_glb D₁₂ (mg_some hs.st fmg_piled) ?_
    refine callWith_K D₁₂.hs.X k320 (spliced_more ?_)
    refine Subscript_ ?_
    refine n_loc D₁₂ (lk_tl (lk_tl (lk_tl (lk_tl (lk_tl lk_hd))))) ?_
    refine wpAny_Slice (ep_none (ep_some ?_))
    refine n_loc D₁₂ (lk_tl (lk_tl (lk_tl lk_hd))) ?_
    refine ep_none ?_
    refine sl_to (a := mm) (D₁₂.pushed _ rfl) ((D₁₂.pushed _ rfl).at (gs _ _ hl)) ⟨_, Heap.get?_push_size _ rfl, rfl, rfl⟩ (by lia) (by lia) fun b s₁₃ G₁₃ k₁₃ D₁₃ g₁₃ hb => ?_
    refine spliced_none ⟨D₁₃.hs.X, ?_⟩
    refine c_piled D₁₃.hs (show A.depth + 1 + 5 ≤ 990 by lia) c.hd ⟨vs.take mm, k₁₃, hb, strs_take mm hSt⟩ (by rw [List.length_take]; lia) hpf fun s₁₄ vr H₁₄ hrl => ?_
    have D₁₄ := D₁₃.back0 H₁₄
    refine spliced_none ⟨D₁₄.hs.X, ?_⟩
    refine c_paperof kk raw t hpap _ _ _ _ _ _ D₁₄.hs.all (show A.depth + 1 + kk + 8 ≤ 990 by lia) c.hd hrl fun s₁₅ vp H₁₅ hrp => ?_
    have D₁₅ := D₁₄.back0 H₁₅
    obtain ⟨as1, r1⟩ := rep_reads ((hvf'.mono g₁₃).mono D₁₅.hs.keep)
    obtain ⟨as2, r2⟩ := rep_reads hrp
    refine SeqAt.compareNe_reads r1 r2 hlay hlay ?_ (wpAny_truthy_bool ?_)
    · have := Nat.min_le_left (PyData.depth t.dat) (PyData.depth t.dat)
      show A.units + 3 + min (PyData.depth t.dat) (PyData.depth t.dat) < 9900
      lia
    rw [eqv_refl0 t.dat hlay, if_neg (by decide)]
    refine isTrue_or_nil ?_
    first | refine if_no rfl ?_ | rw [if_neg (by decide)]
    refine x_nil (seq_next ?_)
    have Rd2 := Rd'.mono g₁₃
    have gs2 : s.heap.StaysIn G₁₃ := fun b o e => g₁₃ b o (gs b o e)
    obtain ⟨hnw, spn, hspn, hns⟩ := R.nwsp hmm
    obtain ⟨tsp, hspv⟩ := ints_nth hSI mm (spn : Int) (by rw [List.getElem?_map, hspn]; rfl)
    refine x_ret ?_
    refine BoolOp_and ?_
    refine wpAny_Compare1 ?_
    refine r_call0 D₁₅ (lk_tl lk_hd) Rd2.inst (D₁₅.get (.head _)) rf_spot i173 k173 ?_
    refine c_spot D₁₅.hs Rd2 (D₁₅.get (.head _)) hp' (c.deep _).room fun s₁₆ t₁₆ H₁₆ => ?_
    have D₁₆ := D₁₅.back0 H₁₆
    refine Subscript_ ?_
    refine n_loc D₁₆ (lk_tl (lk_tl (lk_tl (lk_tl lk_hd)))) ?_
    refine n_loc D₁₆ (lk_tl (lk_tl (lk_tl lk_hd))) ?_
    refine li_get (D₁₆.at (gs2 _ _ hls)) (k := mm) (v := .int spn tsp) rfl (by lia) (by simpa using hspv) ?_
    refine eq_int (wpAny_truthy_bool ?_)
    rw [hns, show (((spn : Nat) : Int) == ((spn : Nat) : Int)) = true from by simp, if_pos rfl]
    refine BoolOp_one ?_
    refine wpAny_Compare1 ?_
    refine r_call0 D₁₆ (lk_tl lk_hd) Rd2.inst (D₁₆.get (.head _)) rf_word ri_word k166 ?_
    refine c_word D₁₆.hs Rd2 (D₁₆.get (.head _)) (nw_at hp') (c.deep _).room fun s₁₇ t₁₇ H₁₇ => ?_
    have D₁₇ := D₁₆.back0 H₁₇
    refine Subscript_ ?_
    refine wpAny_BinOp ?_
    refine n_loc D₁₇ (lk_tl (lk_tl (lk_tl (lk_tl (lk_tl lk_hd))))) ?_
    refine List_ ?_
    refine spliced_more (e_str D₁₇ fun s₁₈ t₁₈ D₁₈ => ?_)
    refine spliced_none (l_new D₁₈ (by size_fits) fun q2 s₁₉ D₁₉ => ?_)
    obtain ⟨n2, hq2⟩ := isL_get (D₁₉.get (.head _))
    refine l_add D₁₉ (D₁₉.at (gs2 _ _ hl)) hq2 (by rw [sizeLine_eq]; simp; lia) fun l5 s₂₀ D₂₀ na5 => ?_
    obtain ⟨n5, h5⟩ := isL_get (D₂₀.get (.head _))
    have hsome : StrsAre (vs ++ [.str "" t₁₈]) (wl ++ [("" : Str)]) := strs_app hSt (.cons _ _ .nil)
    obtain ⟨tw, hvw⟩ := (strs_at hsome).2 mm _ hnw
    refine n_loc D₂₀ (lk_tl (lk_tl (lk_tl lk_hd))) ?_
    refine li_get h5 (k := mm) (v := .str (nw ws mm) tw) rfl (by lia) (by simpa using hvw) ?_
    refine eq_str ?_
    rw [show (nw ws mm == nw ws mm) = true from by simp]
    have Hf := (D₂₀.lo gs2 hs.all.top).hs
    subst hQ₂
    subst hQe; exact ret_v (k _ ⟨Hf.lo hid_in (fun b o e => hid_get (hs.keep b o (hs.top b o e)) fun z => by rw [hfW b z] at e; cases e), fun b o _ e => ⟨o.slots, Hf.keep b o e⟩⟩)
  · subst hE₁
    refine hideP fun P₁ hP₁ => ?_
    obtain ⟨hb, hm⟩ := R.er q hr
    subst hb
    subst hm
    obtain ⟨X, Xg, Xo⟩ := X
    have hWL : W.H.get? L = none := by
      cases z : W.H.get? L with
      | none => rfl
      | some o => rw [hs.keep _ _ (hs.top _ _ z)] at hL; cases hL
    have hWd : ∀ b ∈ [dx], W.H.get? b = none := fun b hb => by
      rw [List.mem_singleton.mp hb]
      cases z : W.H.get? dx with
      | none => rfl
      | some o => rw [D₅.hs.keep _ _ (hs.keep _ _ (hs.top _ _ z))] at nd0; cases nd0
    subst hP₁
    refine ex_note (fs := fs) (by show A.frames.map _ = _; rw [c.fr]; rfl) rfl X (.inr (.inl rfl)) fun h1 X1 => ?_
    refine ex_flight X1 (to := none) fun h2 X2 => ?_
    have De := D₉.caught (s₁ := s₁₀) rfl X2 Xg Xo hfW hWL hWd
    refine wpAny_handleBy_cons (codeAny_handlers_test ?_) (by intro z; cases z)
    refine n_glb De (mg_some hs.st fmg76) ?_
    refine hideP fun P₂ hP₂ => ?_
    refine hideP fun PH5 hPH5 => ?_
    obtain ⟨nm, qn, bs, hdct, sn, sub, ab, col, dd, e0, e1, e2, e3, e5, ec⟩ := fcls76 (W := W)
    subst hPH5
    refine hideP fun PH6 hPH6 => ?_
    obtain ⟨oe2, vs2, xd2, he2, hc2, _⟩ := X2.there
    subst hPH6
    subst hP₂
    refine wpAny_excMatches_sub_self (De.hs.X _ _ ec) he2 hc2 (by decide) ?_
    refine codeAny_handlers_suite_as ?_
    refine ex_flight X2 (to := none) fun h3 X3 => ?_
    have Df := D₉.caught (s₁ := s₁₀) rfl X3 Xg Xo hfW hWL hWd
    refine s_loc Df fun s₁₁ D₁₁ => ?_
    refine hide fun Q₅ E₅ hQ₅ hE₅ => ?_
    refine hideP fun PH7 hPH7 => ?_
    obtain ⟨oe, vse, xd, hoe, hce, hde, hdae, hsz, hx0, hxf, ⟨od, hxd, hod⟩, _⟩ := X3.there
    subst hPH7
    have hLin : ∃ o, s₉.heap.get? L = some o := by
      obtain ⟨m₀, ⟨oL, es, ep, hoL, _⟩, _⟩ := D₉.ns
      exact ⟨oL, hoL⟩
    have heL : e ≠ L := fun z => by obtain ⟨o, ho⟩ := hLin; rw [← z, X3.new] at ho; cases ho
    have hxL : xd ≠ L := fun z => by obtain ⟨o, ho⟩ := hLin; rw [← z, hx0] at ho; cases ho
    have he4 := D₁₁.at (hid_get hoe (by simpa using heL))
    have hx4 := D₁₁.at (hid_get hxd (by simpa using hxL))
    obtain ⟨hnw, spn, hspn, hns⟩ := R.nwsp hmm
    obtain ⟨tsp, hspv⟩ := ints_nth hSI mm (spn : Int) (by rw [List.getElem?_map, hspn]; rfl)
    refine x_ret ?_
    refine BoolOp_and ?_
    refine wpAny_UnaryOp ?_
    refine n_loc D₁₁ (lk_tl (lk_tl lk_hd)) ?_
    refine not_value (wpAny_truthy_bool (wpAny_truthy_bool ?_))
    first | refine if_yes rfl ?_ | rw [if_pos (by decide)]
    refine BoolOp_one ?_
    refine wpAny_Compare1 ?_
    refine Attribute_Name_ ?_
    refine n_loc D₁₁ lk_hd ?_
    refine e_attr D₁₁.hs.X he4 hce hde hdae hx4 hod fun t' => ?_
    have D₁₂ := D₁₁.tok (s₁₁.toks + 1)
    have keep3 : ∀ b o, s.heap.get? b = some o → b ∉ frs fs → h3.get? b = some o ∧ b ≠ L := fun b o q hb => by
      have hbL : b ≠ L := fun z => by rw [z, hL] at q; cases q
      refine ⟨X3.keep b o (D₉.at (g₈ _ _ q)) (fun z => ?_) (fun z => ?_), hbL⟩
      · rcases List.mem_cons.mp z with z | z
        · exact hbL z
        · exact hb z
      · rw [List.mem_singleton.mp z] at q
        rw [D₅.hs.keep _ _ q] at nd0; cases nd0
    obtain ⟨hls3, hlsL⟩ := keep3 _ _ hls hlf
    refine Subscript_ ?_
    refine n_loc D₁₂ (lk_tl (lk_tl (lk_tl (lk_tl lk_hd)))) ?_
    refine n_loc D₁₂ (lk_tl (lk_tl (lk_tl lk_hd))) ?_
    refine li_get (D₁₂.at (hid_get hls3 (by simpa using hlsL))) (k := mm) (v := .int spn tsp) rfl (by lia) (by simpa using hspv) ?_
    refine eq_int ?_
    rw [hns, show (((spn : Nat) : Int) == ((spn : Nat) : Int)) = true from by simp]
    subst hQ₅
    obtain ⟨m₀, hn0, hm0⟩ := D₁₂.ns
    refine wpAny_nameGoes rfl hn0 rfl fun h5 m5 hn5 hs5 => ?_
    have fin : ∀ b o, h3.get? b = some o → b ≠ L → h5.get? b = some o := fun b o q hb => (hs5.2 b hb).trans (D₁₂.hs.keep b o (hid_get q (by simpa using hb)))
    subst hQe
    show Q (.bool true) _
    refine k _ ⟨⟨hs.st, fun b o q => ?_, fun b o q => ?_, D₁₂.hs.gen, D₁₂.hs.oss⟩, fun b o hb q => ?_⟩
    · refine hid_get (hs.keep b o (hs.top b o q)) fun z => ?_
      rw [hfW b z] at q; cases q
    · have hb : b ∉ frs fs := fun z => by rw [hid_none z] at q; cases q
      obtain ⟨q1, q2⟩ := keep3 b o (hid_in _ _ q) hb
      exact fin b o q1 q2
    · have hbL : b ≠ L := fun z => by rw [z, hL] at q; cases q
      obtain ⟨sl, hsl3⟩ := X3.slots b o (D₉.at (g₈ _ _ q)) (.tail _ hb)
      exact ⟨sl, fin b _ hsl3 hbL⟩
end
end Mine
end

section
open PySem PySem.W PyProof.Rows PySem.Calls PySem.Spec
set_option autoImplicit false
namespace Mine
-- trees as data
noncomputable def Good (t : Tr) (n : Nat) : Prop := PyData.canLay0 t.dat = true ∧ PyData.depth t.dat ≤ n
theorem Good.mono {t : Tr} {n n' : Nat} (g : Good t n) (h : n ≤ n') : Good t n' := ⟨g.1, Nat.le_trans g.2 h⟩
theorem good_leaf {w : Str} (h : w ∈ alpha) : Good (.leaf w) 0 := by
  have : ∀ w ∈ alpha, PyData.canLay0 (.str w) = true := by decide +kernel
  unfold Good
  rw [Tr.dat]
  exact ⟨this w h, Nat.le_refl _⟩
theorem good_node {l : List Tr} {n : Nat} (h : ∀ t ∈ l, Good t n) : Good (.node l) (n + 1) := by
  unfold Good
  rw [dat_node]
  have key : PyData.canLayAll0 (l.map Tr.dat) = true ∧ PyData.depthAll (l.map Tr.dat) ≤ n := by
    induction l with
    | nil => exact ⟨rfl, Nat.zero_le _⟩
    | cons t l ih =>
      have h1 := h t (.head _)
      have h2 := ih fun t ht => h t (.tail _ ht)
      rw [List.map_cons, PyData.canLayAll0, PyData.depthAll, Bool.and_eq_true]
      exact ⟨⟨h1.1, h2.1⟩, Nat.max_le.mpr ⟨h1.2, h2.2⟩⟩
  exact ⟨by rw [PyData.canLay0]; exact key.1, by rw [PyData.depth]; lia⟩
theorem TermOf.mono {k k' : Nat} {r t : Tr} (h : TermOf k r t) (hk : k ≤ k') : TermOf k' r t := by
  induction h generalizing k' with
  | leaf => exact .leaf
  | node a b c d ih =>
    obtain ⟨k2, rfl⟩ : ∃ k2, k' = k2 + 1 := ⟨k' - 1, by lia⟩
    exact .node a b c fun i r t h1 h2 => ih i r t h1 h2 (by lia)
theorem PapOf.mono {k k' : Nat} {r t : Tr} (h : PapOf k r t) (hk : k ≤ k') : PapOf k' r t := by
  induction h generalizing k' with
  | same h =>
    obtain ⟨k2, rfl⟩ : ∃ k2, k' = k2 + 1 := ⟨k' - 1, by lia⟩
    exact .same (h.mono (by lia))
  | told =>
    obtain ⟨k2, rfl⟩ : ∃ k2, k' = k2 + 1 := ⟨k' - 1, by lia⟩
    exact .told
  | rule a b c =>
    obtain ⟨k2, rfl⟩ : ∃ k2, k' = k2 + 1 := ⟨k' - 1, by lia⟩
    exact .rule (fun q hq => (a q hq).mono (by lia)) b c
  | under a b _ ih =>
    obtain ⟨k2, rfl⟩ : ∃ k2, k' = k2 + 1 := ⟨k' - 1, by lia⟩
    exact .under a b fun i r t h1 h2 => ih i r t h1 h2 (by lia)
  | turn _ ih =>
    obtain ⟨k2, rfl⟩ : ∃ k2, k' = k2 + 1 := ⟨k' - 1, by lia⟩
    exact .turn (ih (by lia))
  | join _ a b _ ih1 ih2 =>
    obtain ⟨k2, rfl⟩ : ∃ k2, k' = k2 + 1 := ⟨k' - 1, by lia⟩
    exact .join (ih1 (by lia)) a b fun i r t h1 h2 => ih2 i r t h1 h2 (by lia)
-- facts of the alphabet
noncomputable def alpha0 : List Str := "" :: alpha
theorem op_w : ∀ w ∈ alpha0, opOk w = isW w := by decide +kernel
theorem w_fact : ∀ w ∈ alpha0, isW w = true → w ≠ "(" ∧ w ≠ ")" ∧ w ≠ "" ∧ wt w = 0 ∧ w ∈ alpha := by decide +kernel
theorem nw_fact : ∀ w ∈ alpha0, isW w = false → w ≠ "(" → w ≠ ")" → nextOf w = none ∧ isVar w = false := by decide +kernel
theorem var_fact : ∀ w ∈ alpha0, isVar w = true → isW w = true ∧ (w = "?x" ∨ w = "?y") := by decide +kernel
theorem kind_fact : ∀ w ∈ alpha0, isW w = true → w ∉ kinds → nextOf w = none := by decide +kernel
theorem paren_w : isW "(" = false ∧ isW ")" = false ∧ isW "" = false := by decide +kernel
-- moves
theorem a_terms {w : Str} {ns : List Str} (h : w ≠ ")") : act w "terms" ns = .more ["terms", "term"] := by
  unfold act
  rw [if_pos (by rw [show anyS loops ("terms" : Str) = true from by decide +kernel]; simpa using h), show chop ("terms" : Str) = "term" from by decide +kernel]
theorem a_papers {w : Str} {ns : List Str} (h : w ≠ ")") : act w "papers" ns = .more ["papers", "paper"] := by
  unfold act
  rw [if_pos (by rw [show anyS loops ("papers" : Str) = true from by decide +kernel]; simpa using h), show chop ("papers" : Str) = "paper" from by decide +kernel]
theorem a_places {w : Str} {ns : List Str} (h : w ≠ ")") : act w "places" ns = .more ["places", "name"] := by
  unfold act
  rw [if_pos (by rw [show anyS loops ("places" : Str) = true from by decide +kernel]; simpa using h), show chop ("places" : Str) = "name" from by decide +kernel]
theorem a_close : ∀ want ∈ ([")", "terms", "papers", "places"] : List Str), ∀ ns : List Str, act ")" want ns = .go [] ns := by
  intro want hw ns
  simp only [List.mem_cons, List.not_mem_nil, or_false] at hw
  rcases hw with rfl | rfl | rfl | rfl <;> rfl
theorem a_topen {ns : List Str} : act "(" "term" ns = .go ["terms", "term", "word"] ns := rfl
theorem a_popen {ns : List Str} : act "(" "paper" ns = .go ["kind"] ns := rfl
theorem eqf {a b : Str} (h : a ≠ b) : (a == b) = false := by simpa using h
theorem a_term {w : Str} {ns : List Str} (h : w ≠ "(") : act w "term" ns = if isW w = true then .go [] ns else .bad := by
  unfold act
  rw [show anyS loops ("term" : Str) = false from by decide +kernel, Bool.false_and, if_neg (by decide), eqf h, Bool.and_false, if_neg (by decide), show ((Str.ofString "term") == Str.ofString "paper") = false from by decide +kernel, Bool.false_and, if_neg (by decide),
    show ((Str.ofString "term") == Str.ofString "kind") = false from by decide +kernel, Bool.false_and, if_neg (by decide), show ((Str.ofString "term") == Str.ofString "name") = false from by decide +kernel, Bool.false_and, Bool.false_and, if_neg (by decide),
    show anyS ["term", "word"] (Str.ofString "term") = true from by decide +kernel, show anyS [")", "terms", "papers", "places"] (Str.ofString "term") = false from by decide +kernel, show ((Str.ofString "term") == Str.ofString ")") = false from by decide +kernel]
  cases isW w <;> rfl
theorem a_word {w : Str} {ns : List Str} : act w "word" ns = if isW w = true then .go [] ns else .bad := by
  unfold act
  rw [show anyS loops ("word" : Str) = false from by decide +kernel, Bool.false_and, if_neg (by decide), show ((Str.ofString "word") == Str.ofString "term") = false from by decide +kernel, Bool.false_and, if_neg (by decide), show ((Str.ofString "word") == Str.ofString "paper") = false from by decide +kernel, Bool.false_and, if_neg (by decide),
    show ((Str.ofString "word") == Str.ofString "kind") = false from by decide +kernel, Bool.false_and, if_neg (by decide), show ((Str.ofString "word") == Str.ofString "name") = false from by decide +kernel, Bool.false_and, Bool.false_and, if_neg (by decide),
    show anyS ["term", "word"] (Str.ofString "word") = true from by decide +kernel, show anyS [")", "terms", "papers", "places"] (Str.ofString "word") = false from by decide +kernel, show ((Str.ofString "word") == Str.ofString ")") = false from by decide +kernel]
  cases isW w <;> rfl
theorem a_paper {w : Str} {ns : List Str} (h : w ≠ "(") : act w "paper" ns = .bad := by
  unfold act
  rw [show anyS loops ("paper" : Str) = false from by decide +kernel, Bool.false_and, if_neg (by decide), show ((Str.ofString "paper") == Str.ofString "term") = false from by decide +kernel, Bool.false_and, if_neg (by decide), eqf h, Bool.and_false, if_neg (by decide),
    show ((Str.ofString "paper") == Str.ofString "kind") = false from by decide +kernel, Bool.false_and, if_neg (by decide), show ((Str.ofString "paper") == Str.ofString "name") = false from by decide +kernel, Bool.false_and, Bool.false_and, if_neg (by decide),
    show anyS ["term", "word"] (Str.ofString "paper") = false from by decide +kernel, show anyS [")", "terms", "papers", "places"] (Str.ofString "paper") = false from by decide +kernel]
  rfl
theorem a_kind {w : Str} {ns : List Str} : act w "kind" ns = match nextOf w with | some l => .go l [] | none => .bad := by
  unfold act
  rw [show anyS loops ("kind" : Str) = false from by decide +kernel, Bool.false_and, if_neg (by decide), show ((Str.ofString "kind") == Str.ofString "term") = false from by decide +kernel, Bool.false_and, if_neg (by decide), show ((Str.ofString "kind") == Str.ofString "paper") = false from by decide +kernel, Bool.false_and, if_neg (by decide),
    show ((Str.ofString "kind") == Str.ofString "kind") = true from by decide +kernel, Bool.true_and]
  cases nextOf w with
  | some l => rfl
  | none =>
    rw [if_neg (by decide), show ((Str.ofString "kind") == Str.ofString "name") = false from by decide +kernel, Bool.false_and, Bool.false_and, if_neg (by decide),
      show anyS ["term", "word"] (Str.ofString "kind") = false from by decide +kernel, show anyS [")", "terms", "papers", "places"] (Str.ofString "kind") = false from by decide +kernel]
    rfl
theorem a_name {w : Str} {ns : List Str} : act w "name" ns = if (isVar w && !anyS ns w) = true then .go ["term"] (ns ++ [w]) else .bad := by
  unfold act
  rw [show anyS loops ("name" : Str) = false from by decide +kernel, Bool.false_and, if_neg (by decide), show ((Str.ofString "name") == Str.ofString "term") = false from by decide +kernel, Bool.false_and, if_neg (by decide), show ((Str.ofString "name") == Str.ofString "paper") = false from by decide +kernel, Bool.false_and, if_neg (by decide),
    show ((Str.ofString "name") == Str.ofString "kind") = false from by decide +kernel, Bool.false_and, if_neg (by decide), show ((Str.ofString "name") == Str.ofString "name") = true from by decide +kernel, Bool.true_and]
  cases (isVar w && !anyS ns w) with
  | true => rfl
  | false =>
    rw [if_neg (by decide), show anyS ["term", "word"] (Str.ofString "name") = false from by decide +kernel, show anyS [")", "terms", "papers", "places"] (Str.ofString "name") = false from by decide +kernel]
    rfl
theorem a_bad {w : Str} {ns : List Str} (h : w ≠ ")") : act w ")" ns = .bad := by
  unfold act
  rw [show anyS loops (")" : Str) = false from by decide +kernel, Bool.false_and, if_neg (by decide), show ((Str.ofString ")") == Str.ofString "term") = false from by decide +kernel, Bool.false_and, if_neg (by decide), show ((Str.ofString ")") == Str.ofString "paper") = false from by decide +kernel, Bool.false_and, if_neg (by decide),
    show ((Str.ofString ")") == Str.ofString "kind") = false from by decide +kernel, Bool.false_and, if_neg (by decide), show ((Str.ofString ")") == Str.ofString "name") = false from by decide +kernel, Bool.false_and, Bool.false_and, if_neg (by decide),
    show ((Str.ofString ")") == Str.ofString ")") = true from by decide +kernel, show (w != Str.ofString ")") = true from by simpa using h]
  rw [show (true && true) = true from rfl, Bool.or_true, if_pos rfl]
noncomputable def GNx (ws : List (Str × Int)) (i : Nat) (S ns : List Str) (m : Nat) (b : Bool) : Prop := ∃ k, GN ws k i S ns m b
section
variable {ws : List (Str × Int)} {i m : Nat} {b : Bool} {st p ns ns' : List Str} {want : Str}
theorem GNx.more (h : act (nw ws i) want ns = .more p) (x : GNx ws i (st ++ p) ns m b) : GNx ws i (st ++ [want]) ns m b := let ⟨k, x⟩ := x; ⟨k + 1, .more h x⟩
theorem GNx.go (h : act (nw ws i) want ns = .go p ns') (x : GNx ws (i + 1) (st ++ p) ns' m b) : GNx ws i (st ++ [want]) ns m b := let ⟨k, x⟩ := x; ⟨k + 1, .go h x⟩
theorem GNx.bad (h : act (nw ws i) want ns = .bad) : GNx ws i (st ++ [want]) ns i false := ⟨1, .bad h⟩
theorem GNx.go0 (h : act (nw ws i) want ns = .go [] ns') (x : GNx ws (i + 1) st ns' m b) : GNx ws i (st ++ [want]) ns m b := GNx.go h (by rw [List.append_nil]; exact x)
end
end Mine
end

section
open PySem PySem.W PyProof.Rows PySem.Calls PySem.Spec
set_option autoImplicit false
namespace Mine
structure Wx (wl : List Str) (ws : List (Str × Int)) : Prop where
  nwe : ∀ i, nw ws i = wl.getD i ""
  len : ws.length = wl.length + 1
  al : ∀ w ∈ wl, w ∈ alpha
  pk : ∀ k, bal (wl.take k) ≤ 39
  sz : wl.length ≤ 500
noncomputable def seg (wl : List Str) (p q : Nat) : List Str := (wl.take q).drop p
noncomputable def Pf (wl : List Str) (p q : Nat) (raws : List Tr) : Prop := ∀ top r, pfold (seg wl p q) (top :: r) = some ((top ++ raws) :: r)
section
variable {wl : List Str} {ws : List (Str × Int)} {p q r d : Nat}
theorem Wx.mem (x : Wx wl ws) (i : Nat) : nw ws i ∈ alpha0 := by
  rw [x.nwe, List.getD_eq_getElem?_getD]
  cases h : wl[i]? with
  | none => exact .head _
  | some w => exact .tail _ (x.al w (List.mem_of_getElem? h))
theorem Wx.at (x : Wx wl ws) {i : Nat} (h : i < wl.length) : wl[i]? = some (nw ws i) := by
  rw [x.nwe, List.getD_eq_getElem?_getD, List.getElem?_eq_getElem h]; rfl
theorem Wx.lt (x : Wx wl ws) {i : Nat} (h : nw ws i ≠ "") : i < wl.length := by
  by_cases hi : i < wl.length
  · exact hi
  · exfalso
    apply h
    rw [x.nwe, List.getD_eq_getElem?_getD, List.getElem?_eq_none (by lia)]
    rfl
theorem Wx.step (x : Wx wl ws) {i : Nat} (h : i < wl.length) : bal (wl.take (i + 1)) = bal (wl.take i) + wt (nw ws i) := by
  rw [List.take_add_one, x.at h, bal_app]
  simp [bal]
theorem seg_one (x : Wx wl ws) (h : p < wl.length) : seg wl p (p + 1) = [nw ws p] := by
  unfold seg
  rw [List.take_add_one, x.at h, List.drop_append]
  simp [List.length_take, Nat.min_eq_left (Nat.le_of_lt h)]
theorem seg_app (h1 : p ≤ q) (h2 : q ≤ r) : seg wl p r = seg wl p q ++ seg wl q r := by
  unfold seg
  have e : wl.take r = wl.take q ++ (wl.take r).drop q := by
    rw [show wl.take q = (wl.take r).take q from by rw [List.take_take, Nat.min_eq_left h2], List.take_append_drop]
  by_cases hq : q ≤ wl.length
  · conv => lhs; rw [e]
    rw [List.drop_append_of_le_length (by rw [List.length_take]; lia)]
  · rw [List.take_of_length_le (l := wl) (i := r) (by lia), List.take_of_length_le (l := wl) (i := q) (by lia), List.drop_of_length_le (i := q) (by lia), List.append_nil]
theorem Pf.nil : Pf wl p p [] := fun top r => by
  unfold seg
  rw [List.drop_of_length_le (by rw [List.length_take]; lia), List.append_nil]
  rfl
theorem Pf.app {a b : List Tr} (h1 : p ≤ q) (h2 : q ≤ r) (x : Pf wl p q a) (y : Pf wl q r b) : Pf wl p r (a ++ b) := fun top s => by
  rw [seg_app h1 h2, pfold_app, x top s, Option.bind_some, y, List.append_assoc]
theorem Pf.word (x : Wx wl ws) (h : p < wl.length) (h1 : nw ws p ≠ "(") (h2 : nw ws p ≠ ")") : Pf wl p (p + 1) [.leaf (nw ws p)] := fun top r => by
  rw [seg_one x h]
  show (pstep (top :: r) (nw ws p)).bind (pfold []) = _
  unfold pstep
  rw [if_neg h1, if_neg h2]
  rfl
theorem Pf.paren (x : Wx wl ws) {raws : List Tr} (hp : nw ws p = "(") (hq : nw ws q = ")") (h1 : p + 1 ≤ q) (y : Pf wl (p + 1) q raws) : Pf wl p (q + 1) [.node raws] := fun top r => by
  have hpl := x.lt (i := p) (by rw [hp]; decide)
  have hql := x.lt (i := q) (by rw [hq]; decide)
  rw [seg_app (q := p + 1) (by lia) (by lia), seg_app (p := p + 1) (q := q) (by lia) (by lia), seg_one x hpl, seg_one x hql, hp, hq, pfold_app]
  show ((pstep (top :: r) (Str.ofString "(")).bind (pfold [])).bind _ = _
  unfold pstep
  rw [if_pos rfl]
  show pfold (seg wl (p + 1) q ++ [Str.ofString ")"]) ([] :: top :: r) = _
  rw [pfold_app, y]
  show (pstep (([] ++ raws) :: top :: r) (Str.ofString ")")).bind (pfold []) = _
  unfold pstep
  rw [if_neg (by decide), if_pos rfl]
  rfl
structure OkT (wl : List Str) (ws : List (Str × Int)) (d p : Nat) (t : Tr) (p' : Nat) : Prop where
  lt : p < p'
  le : p' ≤ wl.length
  bl : bal (wl.take p') = d
  gd : Good t (p' - p)
  gn : ∀ (st ns : List Str) (m : Nat) (b : Bool), GNx ws p' st ns m b → GNx ws p (st ++ [("term" : Str)]) ns m b
  raw : ∃ raw, Pf wl p p' [raw] ∧ TermOf (p' - p) raw t
structure OkTs (wl : List Str) (ws : List (Str × Int)) (d p : Nat) (l : List Tr) (p2 : Nat) : Prop where
  le : p ≤ p2
  lt : p2 < wl.length
  cl : nw ws p2 = ")"
  bl : bal (wl.take p2) = d
  gd : ∀ t ∈ l, Good t (p2 - p)
  ln : l.length ≤ p2 - p
  gn : ∀ (st ns : List Str) (m : Nat) (b : Bool), GNx ws (p2 + 1) st ns m b → GNx ws p (st ++ [("terms" : Str)]) ns m b
  raw : ∃ raws, Pf wl p p2 raws ∧ raws.length = l.length ∧ ∀ (i : Nat) (r t : Tr), raws[i]? = some r → l[i]? = some t → TermOf (p2 - p) r t
noncomputable def ResT (wl : List Str) (ws : List (Str × Int)) (d p : Nat) : Res → Prop
  | .ok t p' => OkT wl ws d p t p'
  | .er q => ∀ (st ns : List Str), GNx ws p (st ++ [("term" : Str)]) ns q false
noncomputable def ResTs (wl : List Str) (ws : List (Str × Int)) (d p : Nat) : Res → Prop
  | .ok t p' => ∃ l, t = .node l ∧ OkTs wl ws d p l p'
  | .er q => ∀ (st ns : List Str), GNx ws p (st ++ [("terms" : Str)]) ns q false
theorem app3 (st : List Str) (a b c : Str) : st ++ [a, b, c] = ((st ++ [a]) ++ [b]) ++ [c] := by simp
theorem app2 (st : List Str) (a b : Str) : st ++ [a, b] = (st ++ [a]) ++ [b] := by simp
theorem tot_t (x : Wx wl ws) : ∀ (N : Nat), (∀ p d : Nat, ws.length - p ≤ N → (d : Int) = bal (wl.take p) → ∃ res, PT ws d p res ∧ ResT wl ws d p res) ∧ (∀ p d : Nat, ws.length - p ≤ N → (d : Int) = bal (wl.take p) → ∃ res, PTs ws d p res ∧ ResTs wl ws d p res) := by
  intro N
  induction N using Nat.strongRecOn with
  | _ N ih =>
  have hlen := x.len
  have T : ∀ p d : Nat, ws.length - p ≤ N → (d : Int) = bal (wl.take p) → ∃ res, PT ws d p res ∧ ResT wl ws d p res := by
    intro p d hN hd
    by_cases hp : nw ws p = "("
    · have hpl := x.lt (i := p) (by rw [hp]; decide)
      have hb := x.step hpl
      rw [hp, show wt (Str.ofString "(") = 1 from by decide] at hb
      have hpk := x.pk (p + 1)
      have hd40 : d < 40 := by lia
      cases hok : opOk (nw ws (p + 1)) with
      | false =>
        refine ⟨_, .noop2 hp hd40 hok, fun st ns => ?_⟩
        refine GNx.go (by rw [hp]; exact a_topen) ?_
        rw [app3]
        refine GNx.bad ?_
        rw [a_word, ← op_w _ (x.mem _), hok]; rfl
      | true =>
        have hw := hok
        rw [op_w _ (x.mem _)] at hw
        have wf := w_fact _ (x.mem (p + 1)) hw
        have hpl2 := x.lt (i := p + 1) wf.2.2.1
        have hb2 := x.step hpl2
        rw [wf.2.2.2.1] at hb2
        obtain ⟨r1, h1, R1⟩ := (ih (ws.length - (p + 2)) (by lia)).1 (p + 2) (d + 1) (Nat.le_refl _) (by rw [show p + 2 = p + 1 + 1 from rfl]; lia)
        have g1 : ∀ (st ns : List Str) (m : Nat) (b : Bool), GNx ws (p + 2) ((st ++ [("terms" : Str)]) ++ [("term" : Str)]) ns m b → GNx ws p (st ++ [("term" : Str)]) ns m b := fun st ns m b g => by
          refine GNx.go (by rw [hp]; exact a_topen) ?_
          rw [app3]
          exact GNx.go0 (by rw [a_word, hw]; rfl) g
        cases r1 with
        | er q => exact ⟨_, .er1 hp hd40 hok h1, fun st ns => g1 _ _ _ _ (R1 _ _)⟩
        | ok t p' =>
          have R1 : OkT wl ws (d + 1) (p + 2) t p' := R1
          have hlt := R1.lt
          have hle := R1.le
          obtain ⟨r2, h2, R2⟩ := (ih (ws.length - p') (by lia)).2 p' (d + 1) (Nat.le_refl _) R1.bl.symm
          cases r2 with
          | er q => exact ⟨_, .er2 hp hd40 hok h1 h2, fun st ns => g1 _ _ _ _ (R1.gn _ _ _ _ (R2 _ _))⟩
          | ok t2 p2 =>
            obtain ⟨l, rfl, R2⟩ := R2
            have hle2 := R2.le
            have hlt2 := R2.lt
            have hsz := x.sz
            have hb3 := x.step hlt2
            have hb4 := R2.bl
            rw [R2.cl, show wt (Str.ofString ")") = -1 from by decide] at hb3
            obtain ⟨raw1, pf1, to1⟩ := R1.raw
            obtain ⟨raws, pf2, hrl, to2⟩ := R2.raw
            refine ⟨_, .node hp hd40 hok h1 h2, ⟨by lia, by lia, by lia, ?_, fun st ns m b g => g1 _ _ _ _ (R1.gn _ _ _ _ (R2.gn _ _ _ _ g)), .node (.leaf (nw ws (p + 1)) :: raw1 :: raws), ?_, ?_⟩⟩
            · rw [show p2 + 1 - p = (p2 - p) + 1 from by lia]
              refine good_node fun t ht => ?_
              rcases List.mem_cons.mp ht with rfl | ht
              · exact (good_leaf wf.2.2.2.2).mono (by lia)
              rcases List.mem_cons.mp ht with rfl | ht
              · exact R1.gd.mono (by lia)
              · exact (R2.gd t ht).mono (by lia)
            · refine Pf.paren x hp R2.cl (by lia) ?_
              have e := Pf.app (by lia) (by lia) (Pf.app (by lia) (by lia) (Pf.word x hpl2 wf.1 wf.2.1) pf1) pf2
              simpa using e
            · rw [show p2 + 1 - p = (p2 - p) + 1 from by lia]
              have hln := R2.ln
              refine .node (by simp) (by simp only [List.length_cons]; lia) (by simp [hrl]) fun i r t hr ht => ?_
              cases i with
              | zero => cases hr; cases ht; exact to1.mono (by lia)
              | succ i => exact (to2 i r t (by simpa using hr) (by simpa using ht)).mono (by lia)
    · cases hok : opOk (nw ws p) with
      | false =>
        refine ⟨_, .noop hp hok, fun st ns => GNx.bad ?_⟩
        rw [a_term hp, ← op_w _ (x.mem _), hok]; rfl
      | true =>
        have hw := hok
        rw [op_w _ (x.mem _)] at hw
        have wf := w_fact _ (x.mem p) hw
        have hpl := x.lt (i := p) wf.2.2.1
        have hb := x.step hpl
        rw [wf.2.2.2.1] at hb
        refine ⟨_, .leaf hp hok, ⟨by lia, by lia, by lia, ?_, fun st ns m b g => GNx.go0 (by rw [a_term hp, hw]; rfl) g, .leaf (nw ws p), Pf.word x hpl wf.1 wf.2.1, .leaf⟩⟩
        rw [show p + 1 - p = 0 + 1 from by lia]
        exact good_node fun t ht => by rw [List.mem_singleton.mp ht]; exact good_leaf wf.2.2.2.2
  refine ⟨T, ?_⟩
  intro p d hN hd
  by_cases hp : nw ws p = ")"
  · have hpl := x.lt (i := p) (by rw [hp]; decide)
    refine ⟨_, .nil hp, [], rfl, ⟨Nat.le_refl _, hpl, hp, hd.symm, (fun _ h => nomatch h), Nat.zero_le _, fun st ns m b g => GNx.go0 (by rw [hp]; exact a_close _ (by decide) _) g, [], Pf.nil, rfl, fun i r t hr => by simp at hr⟩⟩
  · have g1 : ∀ (st ns : List Str) (m : Nat) (b : Bool), GNx ws p ((st ++ [("terms" : Str)]) ++ [("term" : Str)]) ns m b → GNx ws p (st ++ [("terms" : Str)]) ns m b := fun st ns m b g => by
      refine GNx.more (a_terms hp) ?_
      rw [app2]; exact g
    obtain ⟨r1, h1, R1⟩ := T p d hN hd
    cases r1 with
    | er q => exact ⟨_, .e1 hp h1, fun st ns => g1 _ _ _ _ (R1 _ _)⟩
    | ok t p' =>
      have R1 : OkT wl ws d p t p' := R1
      have hlt := R1.lt
      have hle := R1.le
      obtain ⟨r2, h2, R2⟩ := (ih (ws.length - p') (by lia)).2 p' d (Nat.le_refl _) R1.bl.symm
      cases r2 with
      | er q => exact ⟨_, .e2 hp h1 h2, fun st ns => g1 _ _ _ _ (R1.gn _ _ _ _ (R2 _ _))⟩
      | ok t2 p2 =>
        obtain ⟨l, rfl, R2⟩ := R2
        have hle2 := R2.le
        obtain ⟨raw1, pf1, to1⟩ := R1.raw
        obtain ⟨raws, pf2, hrl, to2⟩ := R2.raw
        refine ⟨_, .cons hp h1 h2, t :: l, rfl, ⟨by lia, R2.lt, R2.cl, R2.bl, fun u hu => ?_, ?_, fun st ns m b g => g1 _ _ _ _ (R1.gn _ _ _ _ (R2.gn _ _ _ _ g)), raw1 :: raws, ?_, ?_, ?_⟩⟩
        · rcases List.mem_cons.mp hu with rfl | hu
          · exact R1.gd.mono (by lia)
          · exact (R2.gd u hu).mono (by lia)
        · have := R2.ln; simp only [List.length_cons]; lia
        · have e := Pf.app (by lia) (by lia) pf1 pf2
          simpa using e
        · simp [hrl]
        · intro i r t hr ht
          cases i with
          | zero => cases hr; cases ht; exact to1.mono (by lia)
          | succ i => exact (to2 i r t (by simpa using hr) (by simpa using ht)).mono (by lia)
end
end Mine
end

section
open PySem PySem.W PyProof.Rows PySem.Calls PySem.Spec
set_option autoImplicit false
namespace Mine
section
variable {wl : List Str} {ws : List (Str × Int)} {p q r d : Nat}
structure OkL (wl : List Str) (ws : List (Str × Int)) (d p : Nat) (f f' : List (Str × Tr)) (p' : Nat) : Prop where
  le : p ≤ p'
  lt : p' < wl.length
  cl : nw ws p' = ")"
  bl : bal (wl.take p') = d
  nd : (f'.map (·.1)).Nodup
  xy : ∀ k ∈ f'.map (·.1), XY k
  gd : ∀ q ∈ f', q ∈ f ∨ Good (pairT q) (p' - p)
  gn : ∀ (st : List Str) (m : Nat) (b : Bool), (∀ ns, GNx ws (p' + 1) st ns m b) → GNx ws p (st ++ [("places" : Str)]) (f.map (·.1)) m b
  raw : ∃ g : List (Str × Tr × Tr), f' = f ++ snd3 g ∧ Pf wl p p' (flat g) ∧ ∀ q ∈ g, TermOf (p' - p) q.2.1 q.2.2
noncomputable def ResLL (wl : List Str) (ws : List (Str × Int)) (d p : Nat) (f : List (Str × Tr)) : ResL → Prop
  | .ok f' p' => OkL wl ws d p f f' p'
  | .er q => ∀ (st : List Str), GNx ws p (st ++ [("places" : Str)]) (f.map (·.1)) q false
theorem tot_l (x : Wx wl ws) : ∀ (N p d : Nat) (f : List (Str × Tr)), ws.length - p ≤ N → (d : Int) = bal (wl.take p) → (f.map (·.1)).Nodup → (∀ k ∈ f.map (·.1), XY k) → ∃ rl, PL ws d p f rl ∧ ResLL wl ws d p f rl := by
  intro N
  induction N using Nat.strongRecOn with
  | _ N ih =>
  intro p d f hN hd hnd hxy
  have hlen := x.len
  by_cases hp : nw ws p = ")"
  · have hpl := x.lt (i := p) (by rw [hp]; decide)
    refine ⟨_, .nil hp, ⟨Nat.le_refl _, hpl, hp, hd.symm, hnd, hxy, fun q hq => .inl hq, fun st m b g => GNx.go0 (by rw [hp]; exact a_close _ (by decide) _) (g _), [], by simp [snd3], Pf.nil, (fun _ h => nomatch h)⟩⟩
  · have g1 : ∀ (st : List Str) (m : Nat) (b : Bool), GNx ws p ((st ++ [("places" : Str)]) ++ [("name" : Str)]) (f.map (·.1)) m b → GNx ws p (st ++ [("places" : Str)]) (f.map (·.1)) m b := fun st m b g => by
      refine GNx.more (a_places hp) ?_
      rw [app2]; exact g
    cases hv : isVar (nw ws p) with
    | false => exact ⟨_, .novar hp hv, fun st => g1 _ _ _ (GNx.bad (by rw [a_name, hv]; rfl))⟩
    | true =>
      by_cases hm : nw ws p ∈ f.map (·.1)
      · refine ⟨_, .twice hp hv hm, fun st => g1 _ _ _ (GNx.bad ?_)⟩
        rw [a_name, hv, anyS_mem.mpr hm]; rfl
      · have vf := var_fact _ (x.mem p) hv
        have wf := w_fact _ (x.mem p) vf.1
        have hpl := x.lt (i := p) wf.2.2.1
        have hb := x.step hpl
        rw [wf.2.2.2.1] at hb
        obtain ⟨r1, h1, R1⟩ := (tot_t x (ws.length - (p + 1))).1 (p + 1) d (Nat.le_refl _) (by lia)
        have g2 : ∀ (st : List Str) (m : Nat) (b : Bool), GNx ws (p + 1) ((st ++ [("places" : Str)]) ++ [("term" : Str)]) (f.map (·.1) ++ [nw ws p]) m b → GNx ws p (st ++ [("places" : Str)]) (f.map (·.1)) m b := fun st m b g => by
          refine g1 _ _ _ (GNx.go ?_ g)
          have : anyS (f.map (·.1)) (nw ws p) = false := by
            cases h : anyS (f.map (·.1)) (nw ws p) with
            | false => rfl
            | true => exact absurd (anyS_mem.mp h) hm
          rw [a_name, hv, this]; rfl
        cases r1 with
        | er q => exact ⟨_, .er hp hv hm h1, fun st => g2 _ _ _ (R1 _ _)⟩
        | ok t p' =>
          have R1 : OkT wl ws d (p + 1) t p' := R1
          have hlt := R1.lt
          have hle := R1.le
          have hmap : ((f ++ [(nw ws p, t)]).map (·.1)) = f.map (·.1) ++ [nw ws p] := by simp
          obtain ⟨r2, h2, R2⟩ := ih (ws.length - p') (by lia) p' d (f ++ [(nw ws p, t)]) (Nat.le_refl _) R1.bl.symm
            (by rw [hmap, List.nodup_append]; exact ⟨hnd, by simp, fun a ha b hb => by rw [List.mem_singleton.mp hb]; exact fun z => hm (z ▸ ha)⟩)
            (by rw [hmap]; intro k hk; exact (List.mem_append.mp hk).elim (hxy k) fun hk => (List.mem_singleton.mp hk).symm ▸ vf.2)
          cases r2 with
          | er q =>
            refine ⟨_, .cons hp hv hm h1 h2, fun st => g2 _ _ _ (R1.gn _ _ _ _ ?_)⟩
            have := R2 st
            rw [hmap] at this
            exact this
          | ok f' p2 =>
            have R2 : OkL wl ws d p' (f ++ [(nw ws p, t)]) f' p2 := R2
            have hle2 := R2.le
            obtain ⟨raw1, pf1, to1⟩ := R1.raw
            obtain ⟨g, hg, pfg, tog⟩ := R2.raw
            refine ⟨_, .cons hp hv hm h1 h2, ⟨by lia, R2.lt, R2.cl, R2.bl, R2.nd, R2.xy, fun q hq => ?_, fun st m b gg => ?_, (nw ws p, raw1, t) :: g, ?_, ?_, ?_⟩⟩
            · rcases R2.gd q hq with h | h
              · rcases List.mem_append.mp h with h | h
                · exact .inl h
                · rw [List.mem_singleton.mp h]
                  refine .inr ?_
                  have hgd := R1.gd
                  have := good_node (l := [.leaf (nw ws p), t]) (n := p' - (p + 1)) (fun u hu => by
                    rcases List.mem_cons.mp hu with rfl | hu
                    · exact (good_leaf wf.2.2.2.2).mono (Nat.zero_le _)
                    · rw [List.mem_singleton.mp hu]; exact hgd)
                  exact this.mono (by lia)
              · exact .inr (h.mono (by lia))
            · refine g2 _ _ _ (R1.gn _ _ _ _ ?_)
              have := R2.gn st m b gg
              rw [hmap] at this
              exact this
            · rw [hg]; simp [snd3]
            · have e := Pf.app (by lia) (by lia) (Pf.app (by lia) (by lia) (Pf.word x hpl wf.1 wf.2.1) pf1) pfg
              exact e
            · intro q hq
              rcases List.mem_cons.mp hq with rfl | hq
              · exact to1.mono (by lia)
              · exact (tog q hq).mono (by lia)
theorem good_join {acc t : Tr} {a b : Nat} (h1 : Good acc a) (h2 : Good t b) (ha : 1 ≤ a) (hb : 1 ≤ b) : Good (joinT acc t) (a + b) := by
  have := good_node (l := [.leaf "join", acc, t]) (n := a + b - 1) (fun u hu => by
    simp only [List.mem_cons, List.not_mem_nil, or_false] at hu
    rcases hu with rfl | rfl | rfl
    · exact (good_leaf (by decide)).mono (Nat.zero_le _)
    · exact h1.mono (by lia)
    · exact h2.mono (by lia))
  exact this.mono (by lia)
structure OkP (wl : List Str) (ws : List (Str × Int)) (d p : Nat) (t : Tr) (p' : Nat) : Prop where
  lt : p < p'
  le : p' ≤ wl.length
  bl : bal (wl.take p') = d
  gd : Good t (p' - p)
  gn : ∀ (st : List Str) (m : Nat) (b : Bool), (∀ ns, GNx ws p' st ns m b) → ∀ ns, GNx ws p (st ++ [("paper" : Str)]) ns m b
  raw : ∃ raw, Pf wl p p' [raw] ∧ PapOf (p' - p) raw t
structure OkB (wl : List Str) (ws : List (Str × Int)) (k : Str) (nx : List Str) (d p : Nat) (t : Tr) (p' : Nat) : Prop where
  le : p ≤ p'
  le2 : p' ≤ wl.length
  bl : bal (wl.take p') = d
  gd : Good t (p' - p + 2)
  gn : nw ws p' = ")" → ∀ (st : List Str) (m : Nat) (b : Bool), (∀ ns, GNx ws (p' + 1) st ns m b) → GNx ws p (st ++ nx) [] m b
  gb : nw ws p' ≠ ")" → ∀ (st : List Str), GNx ws p (st ++ nx) [] p' false
  raw : ∃ raws, Pf wl p p' raws ∧ PapOf (p' - p + 1) (.node (.leaf k :: raws)) t
structure OkJ (wl : List Str) (ws : List (Str × Int)) (d p : Nat) (acc t : Tr) (p' : Nat) : Prop where
  le : p ≤ p'
  lt : p' < wl.length
  cl : nw ws p' = ")"
  bl : bal (wl.take p') = d
  gd : ∀ y, 1 ≤ y → Good acc y → Good t (y + (p' - p))
  gn : ∀ (st : List Str) (m : Nat) (b : Bool), (∀ ns, GNx ws (p' + 1) st ns m b) → ∀ ns, GNx ws p (st ++ [("papers" : Str)]) ns m b
  raw : ∃ (raws ts : List Tr), t = ts.foldl joinT acc ∧ Pf wl p p' raws ∧ raws.length = ts.length ∧ raws.length ≤ p' - p ∧ ∀ (i : Nat) (r u : Tr), raws[i]? = some r → ts[i]? = some u → PapOf (p' - p) r u
structure OkPs (wl : List Str) (ws : List (Str × Int)) (d p : Nat) (l : List Tr) (p' : Nat) : Prop where
  le : p ≤ p'
  lt : p' < wl.length
  cl : nw ws p' = ")"
  bl : bal (wl.take p') = d
  gd : ∀ t ∈ l, Good t (p' - p)
  gn : ∀ (st : List Str) (m : Nat) (b : Bool), (∀ ns, GNx ws (p' + 1) st ns m b) → ∀ ns, GNx ws p (st ++ [("papers" : Str)]) ns m b
  raw : ∃ raws, Pf wl p p' raws ∧ raws.length = l.length ∧ raws.length ≤ p' - p ∧ ∀ (i : Nat) (r u : Tr), raws[i]? = some r → l[i]? = some u → PapOf (p' - p) r u
noncomputable def ResP (wl : List Str) (ws : List (Str × Int)) (d p : Nat) : Res → Prop
  | .ok t p' => OkP wl ws d p t p'
  | .er q => ∀ (st ns : List Str), GNx ws p (st ++ [("paper" : Str)]) ns q false
noncomputable def ResB (wl : List Str) (ws : List (Str × Int)) (k : Str) (nx : List Str) (d p : Nat) : Res → Prop
  | .ok t p' => OkB wl ws k nx d p t p'
  | .er q => ∀ (st : List Str), GNx ws p (st ++ nx) [] q false
noncomputable def ResJ (wl : List Str) (ws : List (Str × Int)) (d p : Nat) (acc : Tr) : Res → Prop
  | .ok t p' => OkJ wl ws d p acc t p'
  | .er q => ∀ (st ns : List Str), GNx ws p (st ++ [("papers" : Str)]) ns q false
noncomputable def ResPs (wl : List Str) (ws : List (Str × Int)) (d p : Nat) : Res → Prop
  | .ok t p' => ∃ l, t = .node l ∧ OkPs wl ws d p l p'
  | .er q => ∀ (st ns : List Str), GNx ws p (st ++ [("papers" : Str)]) ns q false
noncomputable def TP (wl : List Str) (ws : List (Str × Int)) (M : Nat) : Prop := ∀ p d : Nat, ws.length - p ≤ M → (d : Int) = bal (wl.take p) → ∃ res, PP ws d p res ∧ ResP wl ws d p res
noncomputable def TJ (wl : List Str) (ws : List (Str × Int)) (M : Nat) : Prop := ∀ (p d : Nat) (acc : Tr), ws.length - p ≤ M → (d : Int) = bal (wl.take p) → ∃ res, PJ ws d p acc res ∧ ResJ wl ws d p acc res
noncomputable def TS (wl : List Str) (ws : List (Str × Int)) (M : Nat) : Prop := ∀ p d : Nat, ws.length - p ≤ M → (d : Int) = bal (wl.take p) → ∃ res, PPs ws d p res ∧ ResPs wl ws d p res
theorem nx_of {k : Str} {a nx : List Str} (h0 : nextOf k = some a) (h : nextOf k = some nx) : nx = a := by rw [h0] at h; exact (Option.some.inj h).symm
theorem tot_b (x : Wx wl ws) (N : Nat) (H : ∀ M, M < N → TP wl ws M ∧ TJ wl ws M ∧ TS wl ws M) (p d : Nat) (k : Str) (nx : List Str) (hN : ws.length - p < N) (hd : (d : Int) = bal (wl.take p)) (hk : k ∈ kinds) (hnx : nextOf k = some nx) :
    ∃ res, PB ws k d p res ∧ ResB wl ws k nx d p res := by
  have hlen := x.len
  have hsz := x.sz
  simp only [kinds, List.mem_cons, List.not_mem_nil, or_false] at hk
  have hword : opOk (nw ws p) = true → isW (nw ws p) = true ∧ (nw ws p ≠ "(" ∧ nw ws p ≠ ")" ∧ nw ws p ≠ "" ∧ wt (nw ws p) = 0 ∧ nw ws p ∈ alpha) ∧ p < wl.length ∧ bal (wl.take (p + 1)) = d := fun hok => by
    have hw := hok
    rw [op_w _ (x.mem _)] at hw
    have wf := w_fact _ (x.mem p) hw
    have hpl := x.lt (i := p) wf.2.2.1
    have hb := x.step hpl
    rw [wf.2.2.2.1] at hb
    exact ⟨hw, wf, hpl, by lia⟩
  have hno : opOk (nw ws p) = false → ∀ ns : List Str, act (nw ws p) "word" ns = .bad := fun hok ns => by rw [a_word, ← op_w _ (x.mem _), hok]; rfl
  rcases hk with rfl | rfl | rfl | rfl | rfl | rfl
  · obtain rfl := nx_of (a := [")", "term"]) rfl hnx
    obtain ⟨r1, h1, R1⟩ := (tot_t x (ws.length - p)).1 p d (Nat.le_refl _) hd
    cases r1 with
    | er q => exact ⟨_, .same h1, fun st => by rw [app2]; exact R1 _ _⟩
    | ok t p' =>
      have R1 : OkT wl ws d p t p' := R1
      have hlt := R1.lt
      obtain ⟨raw1, pf1, to1⟩ := R1.raw
      refine ⟨_, .same h1, ⟨by lia, R1.le, R1.bl, ?_, fun hc st m b g => ?_, fun hc st => ?_, [raw1], pf1, .same to1⟩⟩
      · exact (good_node (l := [.leaf "same", t]) (n := p' - p) (fun u hu => by
          rcases List.mem_cons.mp hu with rfl | hu
          · exact (good_leaf (by decide)).mono (Nat.zero_le _)
          · rw [List.mem_singleton.mp hu]; exact R1.gd)).mono (by lia)
      · rw [app2]
        exact R1.gn _ _ _ _ (GNx.go0 (by rw [hc]; exact a_close _ (by decide) _) (g _))
      · rw [app2]
        exact R1.gn _ _ _ _ (GNx.bad (a_bad hc))
  · obtain rfl := nx_of (a := [")", "word"]) rfl hnx
    cases hok : opOk (nw ws p) with
    | false => exact ⟨_, .toldE hok, fun st => by rw [app2]; exact GNx.bad (hno hok _)⟩
    | true =>
      obtain ⟨hw, wf, hpl, hb⟩ := hword hok
      refine ⟨_, .told hok, ⟨by lia, by lia, hb, ?_, fun hc st m b g => ?_, fun hc st => ?_, [.leaf (nw ws p)], Pf.word x hpl wf.1 wf.2.1, .told⟩⟩
      · exact (good_node (l := [.leaf "told", .leaf (nw ws p)]) (n := 0) (fun u hu => by
          rcases List.mem_cons.mp hu with rfl | hu
          · exact good_leaf (by decide)
          · rw [List.mem_singleton.mp hu]; exact good_leaf wf.2.2.2.2)).mono (by lia)
      · rw [app2]
        exact GNx.go0 (by rw [a_word, hw]; rfl) (GNx.go0 (by rw [hc]; exact a_close _ (by decide) _) (g _))
      · rw [app2]
        exact GNx.go0 (by rw [a_word, hw]; rfl) (GNx.bad (a_bad hc))
  · obtain rfl := nx_of (a := ["places", "word"]) rfl hnx
    cases hok : opOk (nw ws p) with
    | false => exact ⟨_, .ruleE hok, fun st => by rw [app2]; exact GNx.bad (hno hok _)⟩
    | true =>
      obtain ⟨hw, wf, hpl, hb⟩ := hword hok
      obtain ⟨rl, h1, R1⟩ := tot_l x (ws.length - (p + 1)) (p + 1) d [] (Nat.le_refl _) hb.symm List.nodup_nil (fun _ h => nomatch h)
      cases rl with
      | er q => exact ⟨_, .ruleL hok h1, fun st => by rw [app2]; exact GNx.go0 (by rw [a_word, hw]; rfl) (R1 _)⟩
      | ok f p' =>
        have R1 : OkL wl ws d (p + 1) [] f p' := R1
        have hle := R1.le
        have hlt := R1.lt
        obtain ⟨g, hg, pfg, tog⟩ := R1.raw
        rw [List.nil_append] at hg
        have hmap : (snd3 g).map (·.1) = g.map (·.1) := by simp [snd3]
        refine ⟨_, .rule hok h1, ⟨by lia, by lia, R1.bl, ?_, fun hc st m b gg => ?_, fun hc => absurd R1.cl hc, .leaf (nw ws p) :: flat g, ?_, ?_⟩⟩
        · have inner := good_node (l := (ordP f).map pairT) (n := p' - (p + 1)) (fun u hu => by
            obtain ⟨q, hq, rfl⟩ := List.mem_map.mp hu
            rcases R1.gd q (ordP_mem hq) with h | h
            · cases h
            · exact h)
          exact (good_node (l := [.leaf "rule", .leaf (nw ws p), .node ((ordP f).map pairT)]) (n := p' - p) (fun u hu => by
            simp only [List.mem_cons, List.not_mem_nil, or_false] at hu
            rcases hu with rfl | rfl | rfl
            · exact (good_leaf (by decide)).mono (Nat.zero_le _)
            · exact (good_leaf wf.2.2.2.2).mono (Nat.zero_le _)
            · exact inner.mono (by lia))).mono (by lia)
        · rw [app2]
          exact GNx.go0 (by rw [a_word, hw]; rfl) (R1.gn st m b gg)
        · exact Pf.app (by lia) (by lia) (Pf.word x hpl wf.1 wf.2.1) pfg
        · rw [hg]
          refine PapOf.mono (.rule (k := p' - p) (fun q hq => (tog q hq).mono (by lia)) ?_ ?_) (by lia)
          · rw [← hmap, ← hg]; exact R1.nd
          · rw [← hmap, ← hg]; exact R1.xy
  · obtain rfl := nx_of (a := [")", "paper"]) rfl hnx
    obtain ⟨r1, h1, R1⟩ := (H (ws.length - p) hN).1 p d (Nat.le_refl _) hd
    cases r1 with
    | er q => exact ⟨_, .turn h1, fun st => by rw [app2]; exact R1 _ _⟩
    | ok t p' =>
      have R1 : OkP wl ws d p t p' := R1
      have hlt := R1.lt
      obtain ⟨raw1, pf1, to1⟩ := R1.raw
      refine ⟨_, .turn h1, ⟨by lia, R1.le, R1.bl, ?_, fun hc st m b g => ?_, fun hc st => ?_, [raw1], pf1, .turn to1⟩⟩
      · exact (good_node (l := [.leaf "turn", t]) (n := p' - p) (fun u hu => by
          rcases List.mem_cons.mp hu with rfl | hu
          · exact (good_leaf (by decide)).mono (Nat.zero_le _)
          · rw [List.mem_singleton.mp hu]; exact R1.gd)).mono (by lia)
      · rw [app2]
        exact R1.gn _ _ _ (fun ns => GNx.go0 (by rw [hc]; exact a_close _ (by decide) _) (g _)) _
      · rw [app2]
        exact R1.gn _ _ _ (fun ns => GNx.bad (a_bad hc)) _
  · obtain rfl := nx_of (a := ["papers", "paper", "paper"]) rfl hnx
    obtain ⟨r1, h1, R1⟩ := (H (ws.length - p) hN).1 p d (Nat.le_refl _) hd
    cases r1 with
    | er q => exact ⟨_, .join1 h1, fun st => by rw [app3]; exact R1 _ _⟩
    | ok t1 p1 =>
      have R1 : OkP wl ws d p t1 p1 := R1
      have hlt := R1.lt
      have hle := R1.le
      obtain ⟨raw1, pf1, to1⟩ := R1.raw
      obtain ⟨r2, h2, R2⟩ := (H (ws.length - p1) (by lia)).1 p1 d (Nat.le_refl _) R1.bl.symm
      cases r2 with
      | er q => exact ⟨_, .join2 h1 h2, fun st => by rw [app3]; exact R1.gn _ _ _ (fun ns => R2 _ _) _⟩
      | ok t2 p2 =>
        have R2 : OkP wl ws d p1 t2 p2 := R2
        have hlt2 := R2.lt
        have hle2 := R2.le
        obtain ⟨raw2, pf2, to2⟩ := R2.raw
        obtain ⟨r3, h3, R3⟩ := (H (ws.length - p2) (by lia)).2.1 p2 d (.node [.leaf "join", t1, t2]) (Nat.le_refl _) R2.bl.symm
        cases r3 with
        | er q => exact ⟨_, .join h1 h2 h3, fun st => by rw [app3]; exact R1.gn _ _ _ (fun ns => R2.gn _ _ _ (fun ns => R3 _ _) _) _⟩
        | ok t p' =>
          have R3 : OkJ wl ws d p2 (.node [.leaf "join", t1, t2]) t p' := R3
          have hle3 := R3.le
          have hlt3 := R3.lt
          obtain ⟨raws, ts, ht, pf3, hrl, hr5, to3⟩ := R3.raw
          refine ⟨_, .join h1 h2 h3, ⟨by lia, by lia, R3.bl, ?_, fun hc st m b g => ?_, fun hc => absurd R3.cl hc, raw1 :: raw2 :: raws, ?_, ?_⟩⟩
          · have ga := good_join R1.gd R2.gd (by lia) (by lia)
            exact (R3.gd _ (by lia) ga).mono (by lia)
          · rw [app3]
            exact R1.gn _ _ _ (fun ns => R2.gn _ _ _ (fun ns => R3.gn _ _ _ g _) _) _
          · exact Pf.app (by lia) (by lia) pf1 (Pf.app (by lia) (by lia) pf2 pf3)
          · have := PapOf.join (k := p' - p) (r1 := raw1) (t1 := t1) (rs := raw2 :: raws) (ts := t2 :: ts) (to1.mono (by lia)) (by simp only [List.length_cons]; lia) (by simp [hrl]) (fun i r u hr hu => by
              cases i with
              | zero => cases hr; cases hu; exact to2.mono (by lia)
              | succ i => exact (to3 i r u (by simpa using hr) (by simpa using hu)).mono (by lia))
            rw [ht]
            exact this
  · obtain rfl := nx_of (a := ["papers", "word"]) rfl hnx
    cases hok : opOk (nw ws p) with
    | false => exact ⟨_, .underE hok, fun st => by rw [app2]; exact GNx.bad (hno hok _)⟩
    | true =>
      obtain ⟨hw, wf, hpl, hb⟩ := hword hok
      obtain ⟨r1, h1, R1⟩ := (H (ws.length - (p + 1)) (by lia)).2.2 (p + 1) d (Nat.le_refl _) hb.symm
      cases r1 with
      | er q => exact ⟨_, .underL hok h1, fun st => by rw [app2]; exact GNx.go0 (by rw [a_word, hw]; rfl) (R1 _ _)⟩
      | ok t p' =>
        obtain ⟨l, rfl, R1⟩ := R1
        have hle := R1.le
        have hlt := R1.lt
        obtain ⟨raws, pf1, hrl, hr5, to1⟩ := R1.raw
        refine ⟨_, .under hok h1, ⟨by lia, by lia, R1.bl, ?_, fun hc st m b gg => ?_, fun hc => absurd R1.cl hc, .leaf (nw ws p) :: raws, ?_, ?_⟩⟩
        · have inner := good_node (l := l) (n := p' - (p + 1)) R1.gd
          exact (good_node (l := [.leaf "under", .leaf (nw ws p), .node l]) (n := p' - p) (fun u hu => by
            simp only [List.mem_cons, List.not_mem_nil, or_false] at hu
            rcases hu with rfl | rfl | rfl
            · exact (good_leaf (by decide)).mono (Nat.zero_le _)
            · exact (good_leaf wf.2.2.2.2).mono (Nat.zero_le _)
            · exact inner.mono (by lia))).mono (by lia)
        · rw [app2]
          exact GNx.go0 (by rw [a_word, hw]; rfl) (R1.gn st m b gg _)
        · exact Pf.app (by lia) (by lia) (Pf.word x hpl wf.1 wf.2.1) pf1
        · exact .under (by lia) hrl fun i r u hr hu => (to1 i r u hr hu).mono (by lia)
end
end Mine
end

section
open PySem PySem.W PyProof.Rows PySem.Calls PySem.Spec
set_option autoImplicit false
namespace Mine
section
variable {wl : List Str} {ws : List (Str × Int)} {p q r d : Nat}
theorem tot_p (x : Wx wl ws) : ∀ (N : Nat), TP wl ws N ∧ TJ wl ws N ∧ TS wl ws N := by
  intro N
  induction N using Nat.strongRecOn with
  | _ N ih =>
  have hlen := x.len
  have hsz := x.sz
  have T : TP wl ws N := by
    intro p d hN hd
    by_cases hp : nw ws p = "("
    · have hpl := x.lt (i := p) (by rw [hp]; decide)
      have hb := x.step hpl
      rw [hp, show wt (Str.ofString "(") = 1 from by decide] at hb
      have hpk := x.pk (p + 1)
      have hd40 : d < 40 := by lia
      have g0 : ∀ (st ns : List Str) (m : Nat) (b : Bool), GNx ws (p + 1) (st ++ [("kind" : Str)]) ns m b → GNx ws p (st ++ [("paper" : Str)]) ns m b := fun st ns m b g =>
        GNx.go (by rw [hp]; exact a_popen) g
      cases hok : opOk (nw ws (p + 1)) with
      | false =>
        refine ⟨_, .noop hp hd40 hok, fun st ns => g0 _ _ _ _ (GNx.bad ?_)⟩
        rw [a_kind]
        have hw := hok
        rw [op_w _ (x.mem _)] at hw
        by_cases h1 : nw ws (p + 1) = "("
        · rw [h1]; rfl
        · by_cases h2 : nw ws (p + 1) = ")"
          · rw [h2]; rfl
          · rw [(nw_fact _ (x.mem _) hw h1 h2).1]
      | true =>
        have hw := hok
        rw [op_w _ (x.mem _)] at hw
        have wf := w_fact _ (x.mem (p + 1)) hw
        have hpl2 := x.lt (i := p + 1) wf.2.2.1
        have hb2 := x.step hpl2
        rw [wf.2.2.2.1] at hb2
        by_cases hk : nw ws (p + 1) ∈ kinds
        · obtain ⟨nx, hnx⟩ : ∃ nx, nextOf (nw ws (p + 1)) = some nx := by
            have : ∀ k ∈ kinds, (nextOf k).isSome = true := by decide +kernel
            exact Option.isSome_iff_exists.mp (this _ hk)
          obtain ⟨r1, h1, R1⟩ := tot_b x N ih (p + 2) (d + 1) _ nx (by lia) (by rw [show p + 2 = p + 1 + 1 from rfl]; lia) hk hnx
          have g1 : ∀ (st ns : List Str) (m : Nat) (b : Bool), GNx ws (p + 2) (st ++ nx) [] m b → GNx ws p (st ++ [("paper" : Str)]) ns m b := fun st ns m b g =>
            g0 _ _ _ _ (GNx.go (by rw [a_kind, hnx]) g)
          cases r1 with
          | er q => exact ⟨_, .body hp hd40 hok h1, fun st ns => g1 _ _ _ _ (R1 _)⟩
          | ok t p' =>
            have R1 : OkB wl ws (nw ws (p + 1)) nx (d + 1) (p + 2) t p' := R1
            have hle := R1.le
            have hle2 := R1.le2
            by_cases hc : nw ws p' = ")"
            · have hcl := x.lt (i := p') (by rw [hc]; decide)
              have hb3 := x.step hcl
              have hb4 := R1.bl
              rw [hc, show wt (Str.ofString ")") = -1 from by decide] at hb3
              obtain ⟨raws, pf1, to1⟩ := R1.raw
              refine ⟨_, .ok hp hd40 hok h1 hc, ⟨by lia, by lia, by lia, R1.gd.mono (by lia), fun st m b g ns => g1 _ _ _ _ (R1.gn hc st m b g), .node (.leaf (nw ws (p + 1)) :: raws), ?_, to1.mono (by lia)⟩⟩
              exact Pf.paren x hp hc (by lia) (Pf.app (by lia) (by lia) (Pf.word x hpl2 wf.1 wf.2.1) pf1)
            · exact ⟨_, .noclose hp hd40 hok h1 hc, fun st ns => g1 _ _ _ _ (R1.gb hc st)⟩
        · refine ⟨_, .nokind hp hd40 hok hk, fun st ns => g0 _ _ _ _ (GNx.bad ?_)⟩
          rw [a_kind, kind_fact _ (x.mem _) hw hk]
    · exact ⟨_, .noopen hp, fun st ns => GNx.bad (a_paper hp)⟩
  have hnil : ∀ p : Nat, nw ws p = ")" → ∀ (st : List Str) (m : Nat) (b : Bool), (∀ ns, GNx ws (p + 1) st ns m b) → ∀ ns, GNx ws p (st ++ [("papers" : Str)]) ns m b := fun p hp st m b g ns =>
    GNx.go0 (by rw [hp]; exact a_close _ (by decide) _) (g _)
  have hmore : ∀ p : Nat, nw ws p ≠ ")" → ∀ (st ns : List Str) (m : Nat) (b : Bool), GNx ws p ((st ++ [("papers" : Str)]) ++ [("paper" : Str)]) ns m b → GNx ws p (st ++ [("papers" : Str)]) ns m b := fun p hp st ns m b g => by
    refine GNx.more (a_papers hp) ?_
    rw [app2]; exact g
  refine ⟨T, ?_, ?_⟩
  · intro p d acc hN hd
    by_cases hp : nw ws p = ")"
    · have hpl := x.lt (i := p) (by rw [hp]; decide)
      exact ⟨_, .nil hp, ⟨Nat.le_refl _, hpl, hp, hd.symm, fun y _ h => h.mono (by lia), hnil p hp, [], [], rfl, Pf.nil, rfl, Nat.zero_le _, fun i r t hr => by simp at hr⟩⟩
    · obtain ⟨r1, h1, R1⟩ := T p d hN hd
      cases r1 with
      | er q => exact ⟨_, .er hp h1, fun st ns => hmore p hp _ _ _ _ (R1 _ _)⟩
      | ok t1 p1 =>
        have R1 : OkP wl ws d p t1 p1 := R1
        have hlt := R1.lt
        have hle := R1.le
        obtain ⟨raw1, pf1, to1⟩ := R1.raw
        obtain ⟨r2, h2, R2⟩ := (ih (ws.length - p1) (by lia)).2.1 p1 d (.node [.leaf "join", acc, t1]) (Nat.le_refl _) R1.bl.symm
        cases r2 with
        | er q => exact ⟨_, .cons hp h1 h2, fun st ns => hmore p hp _ _ _ _ (R1.gn _ _ _ (fun ns => R2 _ _) _)⟩
        | ok t p' =>
          have R2 : OkJ wl ws d p1 (.node [.leaf "join", acc, t1]) t p' := R2
          have hle2 := R2.le
          obtain ⟨raws, ts, ht, pf2, hrl, hr5, to2⟩ := R2.raw
          refine ⟨_, .cons hp h1 h2, ⟨by lia, R2.lt, R2.cl, R2.bl, fun y hy ha => ?_, fun st m b g ns => hmore p hp _ _ _ _ (R1.gn _ _ _ (fun ns => R2.gn _ _ _ g _) _), raw1 :: raws, t1 :: ts, ht, Pf.app (by lia) (by lia) pf1 pf2, by simp [hrl], by simp only [List.length_cons]; lia, fun i r u hr hu => ?_⟩⟩
          · have ga := good_join ha R1.gd hy (by lia)
            exact (R2.gd _ (by lia) ga).mono (by lia)
          · cases i with
            | zero => cases hr; cases hu; exact to1.mono (by lia)
            | succ i => exact (to2 i r u (by simpa using hr) (by simpa using hu)).mono (by lia)
  · intro p d hN hd
    by_cases hp : nw ws p = ")"
    · have hpl := x.lt (i := p) (by rw [hp]; decide)
      exact ⟨_, .nil hp, [], rfl, ⟨Nat.le_refl _, hpl, hp, hd.symm, (fun _ h => nomatch h), hnil p hp, [], Pf.nil, rfl, Nat.zero_le _, fun i r t hr => by simp at hr⟩⟩
    · obtain ⟨r1, h1, R1⟩ := T p d hN hd
      cases r1 with
      | er q => exact ⟨_, .e1 hp h1, fun st ns => hmore p hp _ _ _ _ (R1 _ _)⟩
      | ok t1 p1 =>
        have R1 : OkP wl ws d p t1 p1 := R1
        have hlt := R1.lt
        have hle := R1.le
        obtain ⟨raw1, pf1, to1⟩ := R1.raw
        obtain ⟨r2, h2, R2⟩ := (ih (ws.length - p1) (by lia)).2.2 p1 d (Nat.le_refl _) R1.bl.symm
        cases r2 with
        | er q => exact ⟨_, .e2 hp h1 h2, fun st ns => hmore p hp _ _ _ _ (R1.gn _ _ _ (fun ns => R2 _ _) _)⟩
        | ok t2 p' =>
          obtain ⟨l, rfl, R2⟩ := R2
          have hle2 := R2.le
          obtain ⟨raws, pf2, hrl, hr5, to2⟩ := R2.raw
          refine ⟨_, .cons hp h1 h2, t1 :: l, rfl, ⟨by lia, R2.lt, R2.cl, R2.bl, fun u hu => ?_, fun st m b g ns => hmore p hp _ _ _ _ (R1.gn _ _ _ (fun ns => R2.gn _ _ _ g _) _), raw1 :: raws, Pf.app (by lia) (by lia) pf1 pf2, by simp [hrl], by simp only [List.length_cons]; lia, fun i r u hr hu => ?_⟩⟩
          · rcases List.mem_cons.mp hu with rfl | hu
            · exact R1.gd.mono (by lia)
            · exact (R2.gd u hu).mono (by lia)
          · cases i with
            | zero => cases hr; cases hu; exact to1.mono (by lia)
            | succ i => exact (to2 i r u (by simpa using hr) (by simpa using hu)).mono (by lia)
/-- the plain law -/
theorem plain_law {P : Int} {n : Nat} {cs sp : List Nat} (g : Gv P n wl) (hP : P ≤ 39) (hn : n ≤ 500) (hl : Laid false wl cs 0 sp) (hc : cs.length ≤ 10000) (hsl : sp.length = wl.length) :
    ∃ ws k0 mm bb res, Read wl cs sp ws k0 mm bb res := by
  obtain ⟨t, g⟩ := g
  let ws : List (Str × Int) := ((wl.zip sp) ++ [(("" : Str), cs.length)]).map (fun q => (q.1, (q.2 : Int)))
  have hwl : wl.length ≤ 500 := Nat.le_trans g.len hn
  have hlen : ws.length = wl.length + 1 := by
    show (((wl.zip sp) ++ [(("" : Str), cs.length)]).map _).length = _
    rw [List.length_map, List.length_append, List.length_zip, hsl]; simp
  have hnw : ∀ i, nw ws i = wl.getD i "" := by
    intro i
    by_cases hi : i < wl.length
    · obtain ⟨w, hw⟩ : ∃ w, wl[i]? = some w := ⟨_, List.getElem?_eq_getElem hi⟩
      obtain ⟨s, hs⟩ : ∃ s, sp[i]? = some s := ⟨_, List.getElem?_eq_getElem (by lia)⟩
      have : ws[i]? = some (w, (s : Int)) := by
        show (((wl.zip sp) ++ [(("" : Str), cs.length)]).map _)[i]? = _
        rw [List.getElem?_map, List.getElem?_append_left (by rw [List.length_zip]; lia), List.getElem?_zip_eq_some (z := (w, s)) |>.mpr ⟨hw, hs⟩]
        rfl
      rw [List.getD_eq_getElem?_getD, hw]
      show ((ws.getD i ("", 0)).1) = _
      rw [List.getD_eq_getElem?_getD, this]; rfl
    · rw [List.getD_eq_getElem?_getD, List.getElem?_eq_none (l := wl) (by lia)]
      show ((ws.getD i ("", 0)).1) = _
      rw [List.getD_eq_getElem?_getD]
      by_cases he : i = wl.length
      · subst he
        have : ws[wl.length]? = some (("" : Str), (cs.length : Int)) := by
          show (((wl.zip sp) ++ [(("" : Str), cs.length)]).map _)[wl.length]? = _
          rw [List.getElem?_map, List.getElem?_append_right (by rw [List.length_zip]; lia), List.length_zip, hsl]
          simp
        rw [this]; rfl
      · rw [List.getElem?_eq_none (by lia)]; rfl
  have x : Wx wl ws := ⟨hnw, hlen, g.al, fun k => by have := g.pk k; lia, hwl⟩
  obtain ⟨res, hPP, hR⟩ := (tot_p x ws.length).1 0 0 (by lia) (by simp [bal])
  have ends : Ends ws := fun p hp hne => by have := x.lt hne; lia
  have vars : ∀ q, isVar (nw ws q) = true → nw ws q = "?x" ∨ nw ws q = "?y" := fun q h => (var_fact _ (x.mem q) h).2
  cases res with
  | ok t p' =>
    have hR : OkP wl ws 0 0 t p' := hR
    have hlt := hR.lt
    have hle := hR.le
    obtain ⟨k0, hk0⟩ := hR.gn [] p' true (fun ns => ⟨0, .done⟩) []
    obtain ⟨raw, pf, po⟩ := hR.raw
    refine ⟨ws, k0, p', true, _, ⟨g.al, hwl, hl, hc, hsl, rfl, ends, vars, hk0, hPP, fun t2 p2 e => ?_, fun q e => (by cases e)⟩⟩
    cases e
    refine ⟨rfl, rfl, hR.gd.1, by have := hR.gd.2; lia, raw, p' - 0, ?_, po, by lia⟩
    have := pf [] []
    unfold seg at this
    rw [List.drop_zero] at this
    exact this
  | er q =>
    obtain ⟨k0, hk0⟩ := hR [] []
    exact ⟨ws, k0, q, false, _, ⟨g.al, hwl, hl, hc, hsl, rfl, ends, vars, hk0, hPP, fun t2 p2 e => (by cases e), fun q2 e => (by cases e; exact ⟨rfl, rfl⟩)⟩⟩
end
end Mine
end

section
open PySem PySem.W PyProof.Rows PySem.Calls PySem.Spec
set_option autoImplicit false
namespace Mine
theorem warmsu (w : World) (h : Heap) : (hd.heap_39 w.params).In h → PySem.Challenge.rw_rh0003_01.prog = PySem.Challenge.rw_rh0003_01.prog := by
  k_fill
  intro _
  rfl
section
variable {W : Wd} {G : Heap} {L : Addr} {m : List (Str × Value)} {news news' pre post : List (Addr × (Obj → Prop))} {s : Shared} {A : Around} {E : Value → Shared → Prop} {env : Env} {v : Value} {pos : Pos}
  {Q : Value → Shared → Prop} {fs : List Env} {n B : Nat} {l : Addr}
theorem law_led {w : World} {s₁ : Shared} {mg mb : Str → Option Value} {h₁ : Heap} {m : Str → Option Value} {t N : Nat} {l : Addr} {defs : List DefItem} {consts : List (Str × PyData)} {objs : List (Str × (Obj → Prop))} {names : List Str}
    (KX : (hd.heap_39 w.params).In s₁.heap) (GL : Glob N mg mb defs consts objs names s₁.heap) (hg : s₁.gens = #[]) (F : Fr s₁.heap s₁.heap.objs.size h₁ m) (hm : m "script" = some (.ref l)) :
    Led ⟨w, mg, mb, s₁.heap, #[], s₁.os⟩ s₁.heap s₁.heap.objs.size [("script", .ref l)] [] { s₁ with heap := h₁, toks := t } := by
  refine ⟨⟨⟨KX, GL.g, GL.b, GL.nolimit, GL.builtins⟩, fun _ _ e => e, F.keep, hg, rfl⟩, ⟨m, F.ns, fun y v e => ?_⟩, Heap.get?_none_of_le (Nat.le_refl _), (fun _ h => nomatch h), List.nodup_nil⟩
  unfold lk at e
  split at e
  · rename_i hy; cases e; rw [hy]; exact hm
  · cases e
theorem merged2 {a b : Str} {u1 u2 : Value} (h : a ≠ b) : merged [] [(a, u1), (b, u2)] = [(a, u1), (b, u2)] := by
  simp [merged, stored, h]
theorem d_lit2 {a b : Str} {k1 k2 : Nat} {q1 q2 : Pos} {v1 v2 : Expr} (D : Led W G L m news s) (hab : a ≠ b)
    (h : ∀ d s', (d == sysModules) = false → Led W G L m ((d, isD W []) :: news) s' → wpAny (model pw W.w) A (eval v1 env) (fun u1 s₁ => ∃ G₁ m₁ news₁, Led W G₁ L m₁ ((d, isD W []) :: news₁) s₁ ∧ ∀ s₁', Led W G₁ L m₁ ((d, isD W []) :: news₁) s₁' → wpAny (model pw W.w) A (eval v2 env) (fun u2 s₂ => ∃ G' m' news', Led W G' L m' ((d, isD W []) :: news') s₂ ∧
      ∀ s₃, Led W G' L m' ((d, isD W [(a, u1), (b, u2)]) :: news') s₃ → Q (.ref d) s₃) E s₁') E s') :
    wpAny (model pw W.w) A (eval (.Dict [some (.Constant (.str a) k1 q1), some (.Constant (.str b) k2 q2)] [v1, v2] pos) env) Q E s := by
  have h3 : (3 : Nat) < s.heap.objs.size := by
    refine hideP fun PH1 hPH1 => ?_
    obtain ⟨o, es, ep, ho, _⟩ := D.hs.g
    subst hPH1
    exact Heap.lt_size ho
  have lo : (s.heap.objs.size == sysModules) = false := by
    rw [beq_eq_false_iff_ne]
    intro z
    have z : s.heap.objs.size = 1 := z
    lia
  refine wpAny_Dict_walk (knd := PySem.strKind pw W.w) rfl rfl (by simp) (by simp) ?_
  have D₁ := D.push { cls := .type "dict", data := .dict #[] } (isD W []) (by
    obtain ⟨o, e, i⟩ := Heap.dictOf_iff.mp (Heap.DictOf.new (knd := PySem.strKind pw W.w) s.heap)
    rw [Heap.get?_push_size _ rfl] at e
    cases e
    exact i) rfl
  refine evalPairs_cons (wpAny_Constant_str ?_)
  refine wpAny_bind (wpAny_mono (h _ _ lo (D₁.tok _)) (fun u1 s₁ h₁ => wpAny_bind (wpAny_standAt (wpAny_pure ?_))) fun _ _ z => z)
  refine hideP fun PH2 hPH2 => ?_
  obtain ⟨G₁, m₁, news₁, D₂, h₁⟩ := h₁
  subst hPH2
  refine evalPairs_cons (wpAny_Constant_str ?_)
  refine wpAny_bind (wpAny_mono (h₁ _ (D₂.tok _)) (fun u2 s₂ h₂ => wpAny_bind (wpAny_standAt (wpAny_pure ?_))) fun _ _ z => z)
  refine hideP fun PH3 hPH3 => ?_
  obtain ⟨G', m', news', D₃, hq⟩ := h₂
  subst hPH3
  refine evalPairs_nil ⟨[(a, u1), (b, u2)], ⟨key_str, rfl, key_str, rfl, trivial⟩, dictOf_of (D₃.get (.head _)), fun h' hd' hsb => ?_⟩
  rw [merged2 hab] at hd'
  refine hq _ (Led.tok (s := { s₂ with heap := h' }) (D₃.chg (pre := []) (s' := { s₂ with heap := h' }) (fun b o q n => (hsb.2 b n).trans q) (Heap.dictOf_iff.mp hd')) _)
theorem liL_slice {value slice : Expr} {l sl : Addr} {its : Array Value} {vl vu : Value} {lo hi : Option Int} (D : Led W G L m news s) (hl : s.heap.IsList l its) (hs : s.heap.IsSliceOf sl vl vu .none) (h1 : IsPart vl lo) (h2 : IsPart vu hi) (hz : its.size ≤ sizeLine)
    (h : ∀ a s', Led W G L m ((a, isL (slicePick its lo hi none)) :: news) s' → Q (.ref a) s')
    (he : subscripted slice false (.ref l) (.ref sl) = operate [.ref sl, .ref l] (getItem (.ref l) (.ref sl)) := by with_unfolding_all rfl) :
    wpAny (model pw W.w) A (subscriptTail value slice (.ref l) (.ref sl)) Q E s :=
  tail_any hl.typeIs slot_list_getitem.lookup (wpAny_getItem_list_slice hl hs h1 h2 .none (by decide) (h _ _ (D.push _ _ ⟨_, rfl⟩ rfl)) hz) he
theorem take_slice {vs : List Value} (k : Nat) : slicePick vs.toArray none (some (k : Int)) none = (vs.take k).toArray := by
  rw [slice_list (a := 0) (b := min k vs.length) (.inr ⟨rfl, rfl⟩) (.inl ⟨k, rfl, by rw [List.size_toArray]⟩) (Nat.zero_le _) (by rw [List.size_toArray]; lia)]
  show ((vs.drop 0).take (min k vs.length - 0)).toArray = _
  rw [List.drop_zero, Nat.sub_zero, ← List.take_eq_take_min]
theorem ints_take : ∀ {vs : List Value} {is : List Int} (k : Nat), IntsAre vs is → IntsAre (vs.take k) (is.take k)
  | _, _, 0, _ => by simp; exact .nil
  | _, _, k + 1, .nil => by simp; exact .nil
  | _, _, k + 1, .cons x t h => by simp; exact .cons x t (ints_take k h)
theorem Led.out {a : Addr} (D : Led W G L m news s) (h : s.heap.get? a = none) : a ∉ L :: news.map (·.1) := by
  intro hm
  rcases List.mem_cons.mp hm with rfl | hm
  · obtain ⟨m₀, ⟨oL, es, ep, ho, _⟩, _⟩ := D.ns
    rw [ho] at h; cases h
  · obtain ⟨p, hp, rfl⟩ := List.mem_map.mp hm
    obtain ⟨o, ho, _⟩ := D.get hp
    rw [ho] at h; cases h
theorem Led.backF {fr : Env} {s' : Shared} (D : Led W G L m news s) (hf : fr.frame = some L) (b : BackF W [fr] s s') : Led W G L m news s' := by
  obtain ⟨H, sl⟩ := b
  have hfr : frs [fr] = [L] := by unfold frs; rw [List.filterMap_cons, hf]; rfl
  rw [hfr] at H sl
  obtain ⟨m₀, ⟨oL, es, ep, hoL, r⟩, hm⟩ := D.ns
  obtain ⟨q, hq⟩ := sl L oL (.head _) hoL
  refine ⟨⟨D.hs.st, D.hs.top, fun b o e => H.keep b o (hid_get (D.hs.keep b o e) fun z => ?_), H.gen, H.oss⟩, ⟨m₀, ⟨_, es, ep, hq, r⟩, hm⟩, D.off, fun p hp => ?_, D.nd⟩
  · rw [List.mem_singleton.mp z, D.off] at e; cases e
  · obtain ⟨⟨o, e, z⟩, n1, n2⟩ := D.nw p hp
    exact ⟨⟨o, H.keep _ o (hid_get e (by simpa using n1)), z⟩, n1, n2⟩
theorem Led.toGr {s' : Shared} (D : Led W G L m news s) (D' : Led W G L m news' s') (ha : news'.map (·.1) = news.map (·.1)) : ∃ G', Led W G' L m news' s' ∧ G.StaysIn G' ∧ ∀ a o, s.heap.get? a = none → s'.heap.get? a = some o → G'.get? a = some o :=
  ⟨_, D'.anew.1, D'.anew.2, fun a o h e => hid_get e (by rw [ha]; exact D.out h)⟩
theorem Gv.wk {f f' : Int} {N N' : Nat} {ws : List Str} (x : Gv f N ws) (h : f ≤ f') (hN : N ≤ N') : Gv f' N' ws := let ⟨t, x⟩ := x; ⟨t, x.wk h hN⟩
theorem fmg_int : nsIn (hd.heap_39 W.w.params) mainGlobals "int" = some none := by k_is
theorem cA_dep (env : Env) : (callerA.deeper env).depth = 302 := rfl
theorem cA_un (env : Env) : (callerA.deeper env).units = 7 := rfl
theorem cA_cx (env : Env) : Cx (callerA.deeper env) [env] (0 + 150) := ⟨by rw [cA_dep]; lia, by rw [cA_un]; lia, rfl, rfl⟩
theorem frs_one {fr : Env} {L : Addr} (hf : fr.frame = some L) : frs [fr] = [L] := by unfold frs; rw [List.filterMap_cons, hf]; rfl
end
inductive LawJ (W : Wd) (G₅ : Heap) (C I Bl acc fx : Addr) (s₁ : Shared) (oL : Obj) (i : Nat) (s' : Shared) : Prop
  | mk (vals : List Value) (is : List Int) (mC : List (Str × Value)) (_ : Led W G₅ C mC [(I, isIt "list_iterator" (.ref Bl) i), (acc, isL vals.toArray), (s₁.heap.objs.size, (· = oL)), (fx, isD W [])] s') (_ : IntsAre vals is) (_ : vals.length = i) : LawJ W G₅ C I Bl acc fx s₁ oL i s'
inductive LawI1 (W : Wd) (s₁ : Shared) (fx acc J : Addr) (G₁₁ : Heap) (i : Nat) (s' : Shared) : Prop
  | mk (mI : List (Str × Value)) (G' : Heap) (_ : Led W G' s₁.heap.objs.size mI [(fx, isFd W acc (i * 1000)), (J, isRg i (((3 : Nat) : Int) - (i : Int)) 1)] s') (_ : lk mI "feed" = some (.ref fx)) (_ : G₁₁.StaysIn G') : LawI1 W s₁ fx acc J G₁₁ i s'
inductive LawI2 (W : Wd) (s₁ : Shared) (fx acc J1 J : Addr) (i v1 : Nat) (G₁₁ : Heap) (k : Nat) (s' : Shared) : Prop
  | mk (lw : Addr) (ws : List Str) (mI : List (Str × Value)) (G' : Heap) (_ : Led W G' s₁.heap.objs.size mI [(fx, isFd W acc (i * 1000 + 170 + 3 * k)), (J1, isRg k ((v1 : Int) - (k : Int)) 1), (J, isRg ((i : Int) + 1) (((3 : Nat) : Int) - (i : Int) - 1) 1)] s') (_ : lk mI "feed" = some (.ref fx)) (_ : lk mI "words" = some (.ref lw)) (_ : StrL G' lw ws) (_ : Gv (5 + 2 * k) (160 + k) ws) (_ : 2 ≤ ws.length + k) (_ : G₁₁.StaysIn G') : LawI2 W s₁ fx acc J1 J i v1 G₁₁ k s'
inductive LawI3 (W : Wd) (s₁ : Shared) (fx acc J2 J : Addr) (i v2 : Nat) (G₁₁ : Heap) (k : Nat) (s' : Shared) : Prop
  | mk (lw : Addr) (ws : List Str) (mI : List (Str × Value)) (G' : Heap) (_ : Led W G' s₁.heap.objs.size mI [(fx, isFd W acc (i * 1000 + 177 + k)), (J2, isRg k ((v2 : Int) - (k : Int)) 1), (J, isRg ((i : Int) + 1) (((3 : Nat) : Int) - (i : Int) - 1) 1)] s') (_ : lk mI "feed" = some (.ref fx)) (_ : lk mI "words" = some (.ref lw)) (_ : StrL G' lw ws) (_ : Gv (9 + k) (162 + k) ws) (_ : G₁₁.StaysIn G') : LawI3 W s₁ fx acc J2 J i v2 G₁₁ k s'
end Mine
end

open PySem PySem.W PyProof.Rows PySem.Calls PySem.Spec
open Mine
local macro_rules | `(tactic| k_qdec) => `(tactic| decide +kernel)
theorem PySem.Challenge.cw_rh0003_01_holds : PySem.Challenge.rw_rh0003_01.Holds := by
  exact hd (by w_strict (k_go0; (
  rename_i w s₀ s₁ mg mb G Y fa o pm doc kV ho hg KX X V GL T B TE TW w9 w8 M w7 w6 hcd w5 hs hlay0 hL1 hr1 hl2 w4 w3 lA lV wlA hL ra w1 r0 hI hr hc1 hc2 K0 hDf h₁ F N0
  have D := fun t => Mine.law_led (t := t) KX GL hg F (show (fun x => List.lookup x _) (Str.ofString "script") = _ from rfl)
  refine gen (Mine.Wd.mk w mg mb s₁.heap #[] s₁.os) fun W hWe => ?_
  rw [hWe] at D
  have hw : W.w = w := by rw [← hWe]
  have hH : W.H = s₁.heap := by rw [← hWe]
  have hge : W.gens = #[] := by rw [← hWe]
  have hos : W.os = s₁.os := by rw [← hWe]
  have D := D (s₁.toks + 1)
  show wpAny (model Mine.pw w) _ _ _ _ _
  rw [← hw]
  have hlV : lV.length ≤ 63 := by
    have := PyProof.Rows.IntsAre.length hI
    lia
  refine x_asg ?_
  refine d_lit2 D (by decide) fun fx s₂ lo D₂ => ?_
  refine hide fun Q₀ E₀ hQ₀ hE₀ => ?_
  refine e_compG ?_
  refine Subscript_ ?_
  refine n_loc D₂ lk_hd ?_
  refine wpAny_Slice (ep_none (ep_some ?_))
  refine e_int D₂ fun s₃ t₃ D₃ => ?_
  refine ep_none ?_
  have hL3 : Heap.IsList (s₃.heap.push { cls := .type "slice", data := .fields #[.none, .int 60 t₃, .none] }) lA lV.toArray := let ⟨o, e, q⟩ := hL; ⟨o, Heap.get?_push_of_some _ (D₃.hs.keep _ o e), q⟩
  refine liL_slice (vl := .none) (vu := .int 60 t₃) (lo := none) (hi := some ((60 : Nat) : Int)) (D₃.pushed _ rfl) hL3 ⟨_, Heap.get?_push_size _ rfl, rfl, rfl⟩ .none (.int _ _) (by rw [List.size_toArray, sizeLine_eq]; lia) fun Bl s₄ D₄ => ?_
  rw [take_slice] at D₄
  obtain ⟨kB, hB⟩ := isL_get (D₄.get (.head _))
  obtain ⟨G₅, D₅, g₅, hBG⟩ := gr_of D₄ hB
  refine it_list D₅ (D₅.at hBG) fun I s₆ D₆ _ => ?_
  have hI60 := ints_take 60 hI
  refine ⟨G₅, _, _, _, I, _, rfl, D₆, fun A' s' Q' E' hI h => it_self hI h, fun acc C oL s₇ k₇ hacc D₇ => ?_⟩
  refine hideC fun R₀ hR₀ => ?_
  refine c_loop (LawJ W G₅ C I Bl acc fx s₁ oL) (lV.take 60).length ?_ ?_ ?_
  · exact ⟨[], [], [], D₇, .nil, rfl⟩
  · rintro s₈ ⟨vals, is, mC, D₈, hvi, hvl⟩
    refine end_list rfl D₈ (D₈.at hBG) (by simp) fun s₉ D₉ _ => ⟨rfl, ?_⟩
    subst hR₀
    refine ⟨rfl, vals.toArray, mC, D₉, fun s₁₀ k₁₀ D₁₀ => ?_⟩
    subst hQ₀
    obtain ⟨ka, hacc2⟩ := isL_get (D₁₀.get (.head _))
    obtain ⟨G₁₁, D₁₁, g₁₁, hrG⟩ := gr_of D₁₀ hacc2
    refine ⟨G₁₁, _, [], D₁₁, fun s₁₂ D₁₂ => ?_⟩
    refine e_int D₁₂ fun s₁₃ t₁₃ D₁₃ => ?_
    refine ⟨G₁₁, _, [], D₁₃, fun s₁₄ D₁₄ => ?_⟩
    have hrow : Row G₁₁ fx acc := ⟨lo, ⟨vals.toArray, ka, is, hrG, hvi, by rw [List.size_toArray, hvl, List.length_take]; lia⟩⟩
    have D₁₄ : Led W G₁₁ s₁.heap.objs.size [("script", .ref lA)] [(fx, isFd W acc 0)] s₁₄ := D₁₄.soft (pre := []) fun o h => ⟨0, t₁₃, Nat.le_refl _, h⟩
    have gW : s₁.heap.StaysIn G₁₁ := fun b o e => g₁₁ b o (g₅ b o e)
    refine s_loc D₁₄ fun s₁₅ D₁₅ => ?_
    refine x_forH fun Q₁ E₁ hQ₁ hE₁ => ?_
    refine Call_ ?_
    refine n_blt D₁₅ (mg_none D₁₅.hs.st fmg_range) rfl (kb1 (spliced_more ?_))
    refine e_int D₁₅ fun s₁₆ t₁₆ D₁₆ => ?_
    refine spliced_none ?_
    refine rg_new (k := 3) D₁₆ (by lia) fun J s₁₇ D₁₇ => ?_
    refine ⟨LawI1 W s₁ fx acc J G₁₁, 3, ?_, ?_, ?_⟩
    · exact ⟨_, G₁₁, D₁₇.perm (.swap _ _ _), lk_hd, fun _ _ z => z⟩
    · rintro s₁₈ ⟨mI, G', D₁₈, l1, g'⟩
      refine end_rg rfl (D₁₈.perm (.swap _ _ _)) (by lia) fun s₁₉ D₁₉ => ⟨rfl, ?_⟩
      refine x_ret (wpAny_Constant_bool ?_)
      subst hQ₁
      obtain ⟨m₀, hn, _⟩ := D₁₉.ns
      have F' : Fr s₁.heap s₁.heap.objs.size s₁₉.heap m₀ := ⟨hn, fun b o e => D₁₉.hs.keep b o (g' b o (gW b o e)), Nat.le_refl _⟩
      show GoodW _ _ _ _ _ (.ok (.ret (.bool true))) _
      refine goodW_bool F' (D₁₉.hs.gen.trans hge) (raisesW_false ?_) ?_ (D₁₉.hs.oss.trans hos)
      · wrow_none_raised
      · wrow_post
    · rintro B₁ T₁ hB₁ hT₁ i s₁₈ hi ⟨mI, G', D₁₈, l1, g'⟩
      have R := hrow.mono g'
      refine nx_rg (D₁₈.perm (.swap _ _ _)) (by lia) fun s₁₉ t₁₉ D₁₉ => ⟨_, rfl, wpAny_of_eq (a := ()) rfl (wpAny_assign_Name (s_loc D₁₉ fun s₂₀ D₂₀ => ?_))⟩
      have D₂₀ := D₂₀.perm (.swap _ _ _)
      refine x_asg ?_
      refine kl_call D₂₀ (lk_tl l1) fmg_lpaper k292 fun s₂₁ D₂₁ => ?_
      refine e_int D₂₁ fun s₂₂ t₂₂ D₂₂ => ⟨D₂₂, ?_⟩
      have hcp : cp 2 = 169 := rfl
      refine c_lpaper 2 _ _ _ _ _ _ _ D₂₂.sH (by rw [cA_dep]; lia) rfl (R.mono D₂₂.sG) sN (D₂₂.get (.head _)) (by rw [hcp]; lia) (Nat.le_refl _) fun s₂₃ lw ws H₂₃ h₂₃ nl hS gw h2 => ?_
      have D₂₃ := D₂₂.back1 (pre := []) H₂₃ h₂₃
      rw [hcp] at D₂₃
      obtain ⟨G₂₄, D₂₄, g₂₄, kG⟩ := D₂₂.toGr D₂₃ rfl
      obtain ⟨vw, kw, hlw, hSw⟩ := hS
      have hS₂₄ : StrL G₂₄ lw ws := ⟨vw, kw, kG _ _ nl hlw, hSw⟩
      refine s_loc D₂₄ fun s₂₅ D₂₅ => ?_
      have gw0 : Gv 5 160 ws := ⟨_, gw.wk (by lia) (by show lp 2 ≤ 160; exact Nat.le_of_ble_eq_true rfl)⟩
      have R := R.mono g₂₄
      -- the bends
      refine x_forH fun Q₂ E₂ hQ₂ hE₂ => ?_
      refine Call_ ?_
      refine n_blt D₂₅ (mg_none D₂₅.hs.st fmg_range) rfl (kb1 (spliced_more ?_))
      refine p_call (many := 3) D₂₅ R (lk_tl (lk_tl l1)) (by rw [cA_dep]; decide) (by lia) (by decide) (fun s' D' => e_int D' fun s'' t'' D'' => ⟨t'', rfl, D''⟩) fun s₂₆ v1 tv1 D₂₆ hv1 => ?_
      refine spliced_none ?_
      refine rg_new D₂₆ (by lia) fun J1 s₂₇ D₂₇ => ?_
      refine ⟨LawI2 W s₁ fx acc J1 J i v1 G₁₁, v1, ?_, ?_, ?_⟩
      · refine ⟨lw, ws, ("words", .ref lw) :: ("lap", .int i t₁₉) :: mI, G₂₄, ?_, lk_tl (lk_tl l1), lk_hd, hS₂₄, gw0.wk (by lia) (by lia), by lia, fun b o e => g₂₄ b o (g' b o e)⟩
        rw [show (v1 : Int) - ((0 : Nat) : Int) = (v1 : Int) from by lia, show i * 1000 + 170 + 3 * 0 = i * 1000 + 169 + 1 from by lia]
        exact D₂₇.perm (.swap _ _ _)
      · rintro s₂₈ ⟨lw2, ws2, mI2, G2, D₂₈, m1, m2, hS2, gv2, hl2', gG2⟩
        refine end_rg rfl (D₂₈.perm (.swap _ _ _)) (by lia) fun s₂₉ D₂₉ => ⟨rfl, ?_⟩
        have gv3 : Gv 9 162 ws2 := gv2.wk (by lia) (by lia)
        have D₂₉ := D₂₉.fdw (B' := i * 1000 + 176) (by lia)
        have R2 := hrow.mono gG2
        -- the words behind
        refine x_forH fun Q₃ E₃ hQ₃ hE₃ => ?_
        refine Call_ ?_
        refine n_blt D₂₉ (mg_none D₂₉.hs.st fmg_range) rfl (kb1 (spliced_more ?_))
        refine p_call (many := 3) D₂₉ R2 m1 (by rw [cA_dep]; decide) (by lia) (by decide) (fun s' D' => e_int D' fun s'' t'' D'' => ⟨t'', rfl, D''⟩) fun s₃₀ v2 tv2 D₃₀ hv2 => ?_
        refine spliced_none ?_
        refine rg_new D₃₀ (by lia) fun J2 s₃₁ D₃₁ => ?_
        refine ⟨LawI3 W s₁ fx acc J2 J i v2 G₁₁, v2, ?_, ?_, ?_⟩
        · refine ⟨lw2, ws2, mI2, G2, ?_, m1, m2, hS2, gv3.wk (by lia) (by lia), gG2⟩
          rw [show (v2 : Int) - ((0 : Nat) : Int) = (v2 : Int) from by lia, show i * 1000 + 177 + 0 = i * 1000 + 176 + 1 from by lia]
          exact D₃₁.perm (.swap _ _ _)
        · rintro s₃₂ ⟨lw3, ws3, mI3, G3, D₃₂, n1, n2, hS3, gv4, gG3⟩
          refine end_rg rfl (D₃₂.perm (.swap _ _ _)) (by lia) fun s₃₃ D₃₃ => ⟨rfl, ?_⟩
          have gv5 : Gv 11 164 ws3 := gv4.wk (by lia) (by lia)
          have D₃₃ := D₃₃.fdw (B' := i * 1000 + 180) (by lia)
          have R3 := hrow.mono gG3
          obtain ⟨tt5, g5⟩ := id gv5
          have hl5 := g5.len
          refine x_asgT ?_
          refine kl_call D₃₃ n1 fmg_laid k306 fun s₃₄ D₃₄ => ?_
          refine n_loc D₃₄ n2 ⟨D₃₄, ?_⟩
          refine c_laid D₃₄.sH (by rw [cA_dep]; lia) rfl (R3.mono D₃₄.sG) sN (D₃₄.get (.head _)) (by lia) (hS3.mono D₃₄.sG) g5.al (by lia) fun s₃₅ ta ls cs sp tx na nb spv H₃₅ h₃₅ nls hta hls hSI hlaid hcl hspl => ?_
          have D₃₅ := D₃₄.back1 (pre := []) H₃₅ h₃₅
          obtain ⟨G10, D₃₆, g10, kG10⟩ := D₃₄.toGr D₃₅ rfl
          have hlsG := kG10 _ _ nls hls
          refine wpAny_assign_Tuple rfl (isTuple_of hta) rfl rfl fun h' he => ?_
          have D₃₇ := D₃₆.kept (s' := { s₃₅ with heap := h' }) fun b o e => he b o (Nat.ne_of_lt (Heap.lt_size e)) e
          show wpAny (model pw W.w) _ (assignInOrder [assign _ _, assign _ _] [_, _]) _ _ _
          refine assignInOrder_cons (wpAny_assign_Name (s_loc D₃₇ fun s₃₈ D₃₈ => ?_))
          refine assignInOrder_cons (wpAny_assign_Name (s_loc D₃₈ fun s₃₉ D₃₉ => ?_))
          refine assignInOrder_nil ?_
          refine hideP fun PH1 hPH1 => ?_
          obtain ⟨ws4, k0, mm, bb, res, RD⟩ := plain_law gv5 (by lia) (by lia) hlaid (by lia) hspl
          subst hPH1
          refine x_if ?_
          refine isn_call ?_
          refine Call_ ?_
          refine n_glb D₃₉ (mg_some D₃₉.hs.st fmg_isread) ?_
          refine callWith_K D₃₉.hs.X k337 (spliced_more ?_)
          refine n_loc D₃₉ (lk_tl lk_hd) ?_
          refine spliced_more ?_
          refine n_loc D₃₉ (lk_tl (lk_tl n2)) ?_
          refine spliced_more ?_
          refine n_loc D₃₉ lk_hd ?_
          refine spliced_none ⟨D₃₉.hs.X, ?_⟩
          refine c_isread (n := 0) RD D₃₉.hs.all ?_ ?_ ?_ (cA_cx _) (by rw [cA_dep]; lia) ((hS3.mono g10).mono D₃₉.hs.keep) ⟨spv, nb, D₃₉.at hlsG, hSI⟩ fun s₄₀ bf => ?_
          · exact D₃₉.ffv (show G10.FunFrames {} [] from trivial) [] (fun _ h => nomatch h) (fun z => by cases z) rfl
          · intro b hb
            rw [frs_one rfl] at hb
            rw [List.mem_singleton.mp hb, hH]
            exact Heap.get?_none_of_le (Nat.le_refl _)
          · intro hb
            rw [frs_one rfl] at hb
            have := D₃₉.off
            rw [← List.mem_singleton.mp hb, hlsG] at this
            cases this
          have D₄₀ := D₃₉.backF rfl bf
          refine wpAny_truthy_bool ?_
          first | refine if_no rfl ?_ | rw [if_neg (by decide)]
          refine x_nil (seq_next (x_nil ?_))
          subst hQ₃ hQ₂ hB₁
          refine ⟨("spots", .ref ls) :: ("text", .str (txt cs) tx) :: mI3, G10, ?_, lk_tl (lk_tl n1), fun b o e => g10 b o (gG3 b o e)⟩
          rw [show ((i + 1 : Nat) : Int) = (i : Int) + 1 from by lia, show ((3 : Nat) : Int) - ((i : Int) + 1) = ((3 : Nat) : Int) - (i : Int) - 1 from by lia]
          exact D₄₀.fdw (by lia)
        · rintro B₃ T₃ hB₃ hT₃ k s₃₂ hk ⟨lw3, ws3, mI3, G3, D₃₂, n1, n2, hS3, gv4, gG3⟩
          have R3 := hrow.mono gG3
          obtain ⟨vs3, k3, hl3, hSt3⟩ := hS3
          have hvl3 : vs3.length ≤ 1000 := by
            rw [strs_len hSt3]
            obtain ⟨_, g⟩ := gv4
            have := g.len; lia
          refine nx_rg (D₃₂.perm (.swap _ _ _)) (by lia) fun s₃₃ t₃₃ D₃₃ => ⟨_, rfl, wpAny_of_eq (a := ()) rfl (wpAny_assign_Name (s_loc D₃₃ fun s₃₄ D₃₄ => ?_))⟩
          have D₃₄ := D₃₄.perm (.swap _ _ _)
          refine x_asg ?_
          refine wpAny_BinOp ?_
          refine n_loc D₃₄ (lk_tl n2) ?_
          obtain ⟨vo, ko, hSo, ho⟩ := h264 (W := W)
          have hvo : vo.length = 13 := strs_len hSo
          refine List_ ?_
          refine spliced_more ?_
          refine Subscript_ ?_
          refine n_glb D₃₄ (mg_some D₃₄.hs.st fmg_other) ?_
          refine p_call (many := 13) D₃₄ R3 (lk_tl n1) (by rw [cA_dep]; decide) (by lia) (by decide) (fun s' D' => e_int D' fun s'' t'' D'' => ⟨t'', rfl, D''⟩) fun s₃₅ j tj D₃₅ hj => ?_
          obtain ⟨wj, hwj⟩ : ∃ wj, other[j]? = some wj := ⟨_, List.getElem?_eq_getElem (show j < other.length by exact hj)⟩
          obtain ⟨tj2, hvj⟩ := (strs_at hSo).2 j wj hwj
          refine tu_get (D₃₅.hs.X _ _ ho) (by lia) (by lia) (six' (by rw [hvo]; exact hj)) hvj ?_
          refine spliced_none (l_new D₃₅ (by size_fits) fun l2 s₃₆ D₃₆ => ?_)
          obtain ⟨n2', h2'⟩ := isL_get (D₃₆.get (.head _))
          refine l_add D₃₆ (D₃₆.at hl3) h2' (by rw [sizeLine_eq]; simp; lia) fun l5 s₃₇ D₃₇ na5 => ?_
          obtain ⟨n5, h5⟩ := isL_get (D₃₇.get (.head _))
          obtain ⟨G8, D₃₈, g8, h5G⟩ := gr_of D₃₇ h5
          have D₃₈ := D₃₈.less (List.sublist_cons_self _ _)
          refine s_loc D₃₈ fun s₃₉ D₃₉ => x_nil ?_
          subst hB₃
          refine ⟨l5, ws3 ++ [wj], ("words", .ref l5) :: ("turn", .int k t₃₃) :: mI3, G8, ?_, lk_tl (lk_tl n1), lk_hd, ⟨vs3 ++ [.str wj tj2], n5, h5G, strs_app hSt3 (.cons _ _ .nil)⟩, ?_, fun b o e => g8 b o (gG3 b o e)⟩
          · rw [show ((k + 1 : Nat) : Int) = (k : Int) + 1 from by lia, show (v2 : Int) - ((k : Int) + 1) = (v2 : Int) - (k : Int) - 1 from by lia, show i * 1000 + 177 + (k + 1) = i * 1000 + 177 + k + 1 from by lia]
            exact D₃₉
          · have := gv_snoc gv4 (other_al _ (List.mem_of_getElem? hwj)) (by lia)
            exact this.wk (by lia) (by lia)
      · rintro B₂ T₂ hB₂ hT₂ k s₂₈ hk ⟨lw2, ws2, mI2, G2, D₂₈, m1, m2, hS2, gv2, hl2', gG2⟩
        have R2 := hrow.mono gG2
        refine nx_rg (D₂₈.perm (.swap _ _ _)) (by lia) fun s₂₉ t₂₉ D₂₉ => ⟨_, rfl, wpAny_of_eq (a := ()) rfl (wpAny_assign_Name (s_loc D₂₉ fun s₃₀ D₃₀ => ?_))⟩
        have D₃₀ := D₃₀.perm (.swap _ _ _)
        refine x_asg ?_
        refine kl_call D₃₀ (lk_tl m1) fmg_bent k299 fun s₃₁ D₃₁ => ?_
        refine n_loc D₃₁ (lk_tl m2) ⟨D₃₁, ?_⟩
        refine c_bent D₃₁.sH (by rw [cA_dep]; lia) rfl (R2.mono D₃₁.sG) sN (D₃₁.get (.head _)) (by lia) (hS2.mono D₃₁.sG) gv2 (by lia) (by lia) fun s₃₂ lr wsr H₃₂ h₃₂ nlr hSr gvr hlr => ?_
        have D₃₂ := D₃₁.back1 (pre := []) H₃₂ h₃₂
        obtain ⟨G9, D₃₃, g9, kG9⟩ := D₃₁.toGr D₃₂ rfl
        obtain ⟨vr, kr, hlr', hSr'⟩ := hSr
        refine s_loc D₃₃ fun s₃₄ D₃₄ => x_nil ?_
        subst hB₂
        refine ⟨lr, wsr, ("words", .ref lr) :: ("turn", .int k t₂₉) :: mI2, G9, ?_, lk_tl (lk_tl m1), lk_hd, ⟨vr, kr, kG9 _ _ nlr hlr', hSr'⟩, gvr.wk (by lia) (by lia), by lia, fun b o e => g9 b o (gG2 b o e)⟩
        rw [show ((k + 1 : Nat) : Int) = (k : Int) + 1 from by lia, show (v1 : Int) - ((k : Int) + 1) = (v1 : Int) - (k : Int) - 1 from by lia, show i * 1000 + 170 + 3 * (k + 1) = i * 1000 + 170 + 3 * k + 3 from by lia]
        exact D₃₄
  · rintro i s₈ hi ⟨vals, is, mC, D₈, hvi, hvl⟩
    obtain ⟨z, tz, hz⟩ := ints_at hI60 i hi
    refine nx_list D₈ (D₈.at hBG) (by simpa using hz) fun s₉ D₉ _ => ⟨_, rfl, a_locE D₉ fun s₁₀ D₁₀ => ?_⟩
    refine no_tests ?_
    first | refine if_yes rfl ?_ | rw [if_pos rfl]
    refine wpAny_BinOp ?_
    refine Call_ ?_
    refine n_bltE D₁₀ (mg_none D.hs.st fmg_int) rfl (kb1 (spliced_more ?_))
    refine nmE D₁₀ lk_hd ?_
    refine spliced_none ?_
    refine call_int_int ?_
    refine e_int D₁₀ fun s₁₁ t₁₁ D₁₁ => ?_
    refine PyProof.Rows.mod_int (by lia) ?_
    refine l_append (pre := [(I, isIt "list_iterator" (.ref Bl) (i + 1))]) (its := vals.toArray) (D₁₁.tok (s₁₁.toks + 1)) (by rw [sizeLine_eq, List.size_toArray]; rw [List.length_take] at hi; lia) fun s₁₂ D₁₂ => ?_
    refine ⟨vals ++ [.int (Int.fmod z 1000003) s₁₁.toks], is ++ [Int.fmod z 1000003], _, by rw [← List.push_toArray]; exact D₁₂, ints_app hvi (.cons _ _ .nil), by rw [List.length_append, hvl]; rfl⟩
  )))
