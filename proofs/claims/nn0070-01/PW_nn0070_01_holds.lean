import PyProof.Rows.All
import Wide.All
import OpenK.AllK
import Wide.FinOn
import Lean
import PySem.Challenge.RW_nn0070_01
open PySem PySem.W PySem.Calls PyProof.Rows
set_option Elab.async false
set_option maxRecDepth 100000
set_option maxHeartbeats 0
set_option linter.all false
namespace Mine
abbrev Pk (_ : Option Stmt) (T : Type) : Type := T
end Mine
local macro_rules | `(tactic| walk_at "my a") => `(tactic| (refine (?f : (?o = some (Stmt.FunctionDef ?n ?a ?b ?d ?r ?t ?s ?u ?v ?p)) → Mine.Pk ?o _) ?h; (case h => with_unfolding_all rfl); (case f => exact fun _ => ?a)))
local macro_rules | `(tactic| walk_at "my b") => `(tactic| (refine (?f : (?o = some (Stmt.FunctionDef ?n ?a ?b ?d ?r ?t ?s ?u ?v ?p)) → Mine.Pk ?o _) ?h; (case h => with_unfolding_all rfl); (case f => exact fun _ => ?b)))
local macro_rules | `(tactic| walk_at "my s") => `(tactic| (refine (?f : (?o = some (Stmt.FunctionDef ?n ?a ?b ?d ?r ?t ?s ?u ?v ?p)) → Mine.Pk ?o _) ?h; (case h => with_unfolding_all rfl); (case f => exact fun _ => ?s)))
namespace Mine
noncomputable abbrev pw : Program := PySem.Challenge.pw_nn0070_01
noncomputable def st (i : Nat) : Option Stmt := pw.main.body[i]?
noncomputable def cst (i j : Nat) : Option Stmt := match pw.main.body[i]? with
  | some (.ClassDef _ _ _ b _ _ _ _ _ _ _) => b[j]?
  | _ => none
noncomputable abbrev pa0 : Arguments := (by walk_at "my a" : Pk (st 0) _)
noncomputable abbrev bo0 : List Stmt := (by walk_at "my b" : Pk (st 0) _)
noncomputable abbrev sc0 : Scope := (by walk_at "my s" : Pk (st 0) _)
noncomputable abbrev pa1 : Arguments := (by walk_at "my a" : Pk (cst 2 0) _)
noncomputable abbrev bo1 : List Stmt := (by walk_at "my b" : Pk (cst 2 0) _)
noncomputable abbrev sc1 : Scope := (by walk_at "my s" : Pk (cst 2 0) _)
noncomputable abbrev pa2 : Arguments := (by walk_at "my a" : Pk (cst 2 1) _)
noncomputable abbrev bo2 : List Stmt := (by walk_at "my b" : Pk (cst 2 1) _)
noncomputable abbrev sc2 : Scope := (by walk_at "my s" : Pk (cst 2 1) _)
noncomputable abbrev pa3 : Arguments := (by walk_at "my a" : Pk (st 5) _)
noncomputable abbrev bo3 : List Stmt := (by walk_at "my b" : Pk (st 5) _)
noncomputable abbrev sc3 : Scope := (by walk_at "my s" : Pk (st 5) _)
noncomputable abbrev pa4 : Arguments := (by walk_at "my a" : Pk (st 6) _)
noncomputable abbrev bo4 : List Stmt := (by walk_at "my b" : Pk (st 6) _)
noncomputable abbrev sc4 : Scope := (by walk_at "my s" : Pk (st 6) _)
noncomputable abbrev pa5 : Arguments := (by walk_at "my a" : Pk (st 7) _)
noncomputable abbrev bo5 : List Stmt := (by walk_at "my b" : Pk (st 7) _)
noncomputable abbrev sc5 : Scope := (by walk_at "my s" : Pk (st 7) _)
noncomputable abbrev pa6 : Arguments := (by walk_at "my a" : Pk (st 8) _)
noncomputable abbrev bo6 : List Stmt := (by walk_at "my b" : Pk (st 8) _)
noncomputable abbrev sc6 : Scope := (by walk_at "my s" : Pk (st 8) _)
noncomputable abbrev pa7 : Arguments := (by walk_at "my a" : Pk (st 9) _)
noncomputable abbrev bo7 : List Stmt := (by walk_at "my b" : Pk (st 9) _)
noncomputable abbrev sc7 : Scope := (by walk_at "my s" : Pk (st 9) _)
noncomputable abbrev pa8 : Arguments := (by walk_at "my a" : Pk (st 10) _)
noncomputable abbrev bo8 : List Stmt := (by walk_at "my b" : Pk (st 10) _)
noncomputable abbrev sc8 : Scope := (by walk_at "my s" : Pk (st 10) _)
noncomputable abbrev pa9 : Arguments := (by walk_at "my a" : Pk (st 11) _)
noncomputable abbrev bo9 : List Stmt := (by walk_at "my b" : Pk (st 11) _)
noncomputable abbrev sc9 : Scope := (by walk_at "my s" : Pk (st 11) _)
noncomputable abbrev pa10 : Arguments := (by walk_at "my a" : Pk (st 14) _)
noncomputable abbrev bo10 : List Stmt := (by walk_at "my b" : Pk (st 14) _)
noncomputable abbrev sc10 : Scope := (by walk_at "my s" : Pk (st 14) _)
noncomputable abbrev pa11 : Arguments := (by walk_at "my a" : Pk (cst 24 0) _)
noncomputable abbrev bo11 : List Stmt := (by walk_at "my b" : Pk (cst 24 0) _)
noncomputable abbrev sc11 : Scope := (by walk_at "my s" : Pk (cst 24 0) _)
noncomputable abbrev pa12 : Arguments := (by walk_at "my a" : Pk (cst 24 1) _)
noncomputable abbrev bo12 : List Stmt := (by walk_at "my b" : Pk (cst 24 1) _)
noncomputable abbrev sc12 : Scope := (by walk_at "my s" : Pk (cst 24 1) _)
noncomputable abbrev pa13 : Arguments := (by walk_at "my a" : Pk (cst 24 2) _)
noncomputable abbrev bo13 : List Stmt := (by walk_at "my b" : Pk (cst 24 2) _)
noncomputable abbrev sc13 : Scope := (by walk_at "my s" : Pk (cst 24 2) _)
noncomputable abbrev pa14 : Arguments := (by walk_at "my a" : Pk (cst 24 3) _)
noncomputable abbrev bo14 : List Stmt := (by walk_at "my b" : Pk (cst 24 3) _)
noncomputable abbrev sc14 : Scope := (by walk_at "my s" : Pk (cst 24 3) _)
noncomputable abbrev pa15 : Arguments := (by walk_at "my a" : Pk (cst 24 4) _)
noncomputable abbrev bo15 : List Stmt := (by walk_at "my b" : Pk (cst 24 4) _)
noncomputable abbrev sc15 : Scope := (by walk_at "my s" : Pk (cst 24 4) _)
noncomputable abbrev pa16 : Arguments := (by walk_at "my a" : Pk (cst 24 5) _)
noncomputable abbrev bo16 : List Stmt := (by walk_at "my b" : Pk (cst 24 5) _)
noncomputable abbrev sc16 : Scope := (by walk_at "my s" : Pk (cst 24 5) _)
noncomputable abbrev pa17 : Arguments := (by walk_at "my a" : Pk (cst 24 6) _)
noncomputable abbrev bo17 : List Stmt := (by walk_at "my b" : Pk (cst 24 6) _)
noncomputable abbrev sc17 : Scope := (by walk_at "my s" : Pk (cst 24 6) _)
noncomputable abbrev pa18 : Arguments := (by walk_at "my a" : Pk (cst 24 7) _)
noncomputable abbrev bo18 : List Stmt := (by walk_at "my b" : Pk (cst 24 7) _)
noncomputable abbrev sc18 : Scope := (by walk_at "my s" : Pk (cst 24 7) _)
noncomputable abbrev pa19 : Arguments := (by walk_at "my a" : Pk (cst 24 8) _)
noncomputable abbrev bo19 : List Stmt := (by walk_at "my b" : Pk (cst 24 8) _)
noncomputable abbrev sc19 : Scope := (by walk_at "my s" : Pk (cst 24 8) _)
noncomputable abbrev pa20 : Arguments := (by walk_at "my a" : Pk (st 25) _)
noncomputable abbrev bo20 : List Stmt := (by walk_at "my b" : Pk (st 25) _)
noncomputable abbrev sc20 : Scope := (by walk_at "my s" : Pk (st 25) _)
noncomputable abbrev pa21 : Arguments := (by walk_at "my a" : Pk (st 26) _)
noncomputable abbrev bo21 : List Stmt := (by walk_at "my b" : Pk (st 26) _)
noncomputable abbrev sc21 : Scope := (by walk_at "my s" : Pk (st 26) _)
noncomputable abbrev pa22 : Arguments := (by walk_at "my a" : Pk (st 27) _)
noncomputable abbrev bo22 : List Stmt := (by walk_at "my b" : Pk (st 27) _)
noncomputable abbrev sc22 : Scope := (by walk_at "my s" : Pk (st 27) _)
noncomputable abbrev pa23 : Arguments := (by walk_at "my a" : Pk (st 28) _)
noncomputable abbrev bo23 : List Stmt := (by walk_at "my b" : Pk (st 28) _)
noncomputable abbrev sc23 : Scope := (by walk_at "my s" : Pk (st 28) _)
noncomputable abbrev pa24 : Arguments := (by walk_at "my a" : Pk (st 29) _)
noncomputable abbrev bo24 : List Stmt := (by walk_at "my b" : Pk (st 29) _)
noncomputable abbrev sc24 : Scope := (by walk_at "my s" : Pk (st 29) _)
noncomputable abbrev pa25 : Arguments := (by walk_at "my a" : Pk (st 30) _)
noncomputable abbrev bo25 : List Stmt := (by walk_at "my b" : Pk (st 30) _)
noncomputable abbrev sc25 : Scope := (by walk_at "my s" : Pk (st 30) _)
noncomputable abbrev pa26 : Arguments := (by walk_at "my a" : Pk (st 31) _)
noncomputable abbrev bo26 : List Stmt := (by walk_at "my b" : Pk (st 31) _)
noncomputable abbrev sc26 : Scope := (by walk_at "my s" : Pk (st 31) _)
noncomputable abbrev pa27 : Arguments := (by walk_at "my a" : Pk (st 32) _)
noncomputable abbrev bo27 : List Stmt := (by walk_at "my b" : Pk (st 32) _)
noncomputable abbrev sc27 : Scope := (by walk_at "my s" : Pk (st 32) _)
noncomputable abbrev pa28 : Arguments := (by walk_at "my a" : Pk (st 33) _)
noncomputable abbrev bo28 : List Stmt := (by walk_at "my b" : Pk (st 33) _)
noncomputable abbrev sc28 : Scope := (by walk_at "my s" : Pk (st 33) _)
noncomputable abbrev pa29 : Arguments := (by walk_at "my a" : Pk (st 34) _)
noncomputable abbrev bo29 : List Stmt := (by walk_at "my b" : Pk (st 34) _)
noncomputable abbrev sc29 : Scope := (by walk_at "my s" : Pk (st 34) _)
noncomputable abbrev pa30 : Arguments := (by walk_at "my a" : Pk (st 36) _)
noncomputable abbrev bo30 : List Stmt := (by walk_at "my b" : Pk (st 36) _)
noncomputable abbrev sc30 : Scope := (by walk_at "my s" : Pk (st 36) _)
noncomputable abbrev pa31 : Arguments := (by walk_at "my a" : Pk (cst 43 0) _)
noncomputable abbrev bo31 : List Stmt := (by walk_at "my b" : Pk (cst 43 0) _)
noncomputable abbrev sc31 : Scope := (by walk_at "my s" : Pk (cst 43 0) _)
noncomputable abbrev pa32 : Arguments := (by walk_at "my a" : Pk (cst 43 1) _)
noncomputable abbrev bo32 : List Stmt := (by walk_at "my b" : Pk (cst 43 1) _)
noncomputable abbrev sc32 : Scope := (by walk_at "my s" : Pk (cst 43 1) _)
noncomputable abbrev pa33 : Arguments := (by walk_at "my a" : Pk (cst 43 2) _)
noncomputable abbrev bo33 : List Stmt := (by walk_at "my b" : Pk (cst 43 2) _)
noncomputable abbrev sc33 : Scope := (by walk_at "my s" : Pk (cst 43 2) _)
noncomputable abbrev pa34 : Arguments := (by walk_at "my a" : Pk (cst 43 3) _)
noncomputable abbrev bo34 : List Stmt := (by walk_at "my b" : Pk (cst 43 3) _)
noncomputable abbrev sc34 : Scope := (by walk_at "my s" : Pk (cst 43 3) _)
noncomputable abbrev pa35 : Arguments := (by walk_at "my a" : Pk (cst 43 4) _)
noncomputable abbrev bo35 : List Stmt := (by walk_at "my b" : Pk (cst 43 4) _)
noncomputable abbrev sc35 : Scope := (by walk_at "my s" : Pk (cst 43 4) _)
noncomputable abbrev pa36 : Arguments := (by walk_at "my a" : Pk (cst 43 5) _)
noncomputable abbrev bo36 : List Stmt := (by walk_at "my b" : Pk (cst 43 5) _)
noncomputable abbrev sc36 : Scope := (by walk_at "my s" : Pk (cst 43 5) _)
noncomputable abbrev pa37 : Arguments := (by walk_at "my a" : Pk (st 44) _)
noncomputable abbrev bo37 : List Stmt := (by walk_at "my b" : Pk (st 44) _)
noncomputable abbrev sc37 : Scope := (by walk_at "my s" : Pk (st 44) _)
noncomputable abbrev pa38 : Arguments := (by walk_at "my a" : Pk (st 45) _)
noncomputable abbrev bo38 : List Stmt := (by walk_at "my b" : Pk (st 45) _)
noncomputable abbrev sc38 : Scope := (by walk_at "my s" : Pk (st 45) _)
noncomputable abbrev pa39 : Arguments := (by walk_at "my a" : Pk (st 46) _)
noncomputable abbrev bo39 : List Stmt := (by walk_at "my b" : Pk (st 46) _)
noncomputable abbrev sc39 : Scope := (by walk_at "my s" : Pk (st 46) _)
noncomputable abbrev pa40 : Arguments := (by walk_at "my a" : Pk (st 47) _)
noncomputable abbrev bo40 : List Stmt := (by walk_at "my b" : Pk (st 47) _)
noncomputable abbrev sc40 : Scope := (by walk_at "my s" : Pk (st 47) _)
noncomputable abbrev pa41 : Arguments := (by walk_at "my a" : Pk (st 50) _)
noncomputable abbrev bo41 : List Stmt := (by walk_at "my b" : Pk (st 50) _)
noncomputable abbrev sc41 : Scope := (by walk_at "my s" : Pk (st 50) _)
noncomputable abbrev pa42 : Arguments := (by walk_at "my a" : Pk (st 51) _)
noncomputable abbrev bo42 : List Stmt := (by walk_at "my b" : Pk (st 51) _)
noncomputable abbrev sc42 : Scope := (by walk_at "my s" : Pk (st 51) _)
noncomputable abbrev pa43 : Arguments := (by walk_at "my a" : Pk (st 52) _)
noncomputable abbrev bo43 : List Stmt := (by walk_at "my b" : Pk (st 52) _)
noncomputable abbrev sc43 : Scope := (by walk_at "my s" : Pk (st 52) _)
noncomputable abbrev pa44 : Arguments := (by walk_at "my a" : Pk (st 53) _)
noncomputable abbrev bo44 : List Stmt := (by walk_at "my b" : Pk (st 53) _)
noncomputable abbrev sc44 : Scope := (by walk_at "my s" : Pk (st 53) _)
noncomputable abbrev pa45 : Arguments := (by walk_at "my a" : Pk (st 54) _)
noncomputable abbrev bo45 : List Stmt := (by walk_at "my b" : Pk (st 54) _)
noncomputable abbrev sc45 : Scope := (by walk_at "my s" : Pk (st 54) _)
noncomputable abbrev pa46 : Arguments := (by walk_at "my a" : Pk (st 55) _)
noncomputable abbrev bo46 : List Stmt := (by walk_at "my b" : Pk (st 55) _)
noncomputable abbrev sc46 : Scope := (by walk_at "my s" : Pk (st 55) _)
noncomputable abbrev pa47 : Arguments := (by walk_at "my a" : Pk (st 56) _)
noncomputable abbrev bo47 : List Stmt := (by walk_at "my b" : Pk (st 56) _)
noncomputable abbrev sc47 : Scope := (by walk_at "my s" : Pk (st 56) _)
noncomputable abbrev pa48 : Arguments := (by walk_at "my a" : Pk (st 57) _)
noncomputable abbrev bo48 : List Stmt := (by walk_at "my b" : Pk (st 57) _)
noncomputable abbrev sc48 : Scope := (by walk_at "my s" : Pk (st 57) _)
noncomputable abbrev pa49 : Arguments := (by walk_at "my a" : Pk (st 58) _)
noncomputable abbrev bo49 : List Stmt := (by walk_at "my b" : Pk (st 58) _)
noncomputable abbrev sc49 : Scope := (by walk_at "my s" : Pk (st 58) _)
noncomputable abbrev pa50 : Arguments := (by walk_at "my a" : Pk (st 62) _)
noncomputable abbrev bo50 : List Stmt := (by walk_at "my b" : Pk (st 62) _)
noncomputable abbrev sc50 : Scope := (by walk_at "my s" : Pk (st 62) _)
noncomputable abbrev pa51 : Arguments := (by walk_at "my a" : Pk (st 63) _)
noncomputable abbrev bo51 : List Stmt := (by walk_at "my b" : Pk (st 63) _)
noncomputable abbrev sc51 : Scope := (by walk_at "my s" : Pk (st 63) _)
noncomputable abbrev pa52 : Arguments := (by walk_at "my a" : Pk (cst 66 0) _)
noncomputable abbrev bo52 : List Stmt := (by walk_at "my b" : Pk (cst 66 0) _)
noncomputable abbrev sc52 : Scope := (by walk_at "my s" : Pk (cst 66 0) _)
noncomputable abbrev pa53 : Arguments := (by walk_at "my a" : Pk (cst 66 1) _)
noncomputable abbrev bo53 : List Stmt := (by walk_at "my b" : Pk (cst 66 1) _)
noncomputable abbrev sc53 : Scope := (by walk_at "my s" : Pk (cst 66 1) _)
noncomputable abbrev pa54 : Arguments := (by walk_at "my a" : Pk (cst 66 2) _)
noncomputable abbrev bo54 : List Stmt := (by walk_at "my b" : Pk (cst 66 2) _)
noncomputable abbrev sc54 : Scope := (by walk_at "my s" : Pk (cst 66 2) _)
noncomputable abbrev pa55 : Arguments := (by walk_at "my a" : Pk (cst 66 3) _)
noncomputable abbrev bo55 : List Stmt := (by walk_at "my b" : Pk (cst 66 3) _)
noncomputable abbrev sc55 : Scope := (by walk_at "my s" : Pk (cst 66 3) _)
noncomputable abbrev pa56 : Arguments := (by walk_at "my a" : Pk (cst 66 4) _)
noncomputable abbrev bo56 : List Stmt := (by walk_at "my b" : Pk (cst 66 4) _)
noncomputable abbrev sc56 : Scope := (by walk_at "my s" : Pk (cst 66 4) _)
noncomputable abbrev pa57 : Arguments := (by walk_at "my a" : Pk (cst 66 5) _)
noncomputable abbrev bo57 : List Stmt := (by walk_at "my b" : Pk (cst 66 5) _)
noncomputable abbrev sc57 : Scope := (by walk_at "my s" : Pk (cst 66 5) _)
noncomputable abbrev pa58 : Arguments := (by walk_at "my a" : Pk (cst 66 6) _)
noncomputable abbrev bo58 : List Stmt := (by walk_at "my b" : Pk (cst 66 6) _)
noncomputable abbrev sc58 : Scope := (by walk_at "my s" : Pk (cst 66 6) _)
noncomputable abbrev pa59 : Arguments := (by walk_at "my a" : Pk (cst 66 7) _)
noncomputable abbrev bo59 : List Stmt := (by walk_at "my b" : Pk (cst 66 7) _)
noncomputable abbrev sc59 : Scope := (by walk_at "my s" : Pk (cst 66 7) _)
noncomputable abbrev pa60 : Arguments := (by walk_at "my a" : Pk (cst 66 8) _)
noncomputable abbrev bo60 : List Stmt := (by walk_at "my b" : Pk (cst 66 8) _)
noncomputable abbrev sc60 : Scope := (by walk_at "my s" : Pk (cst 66 8) _)
noncomputable abbrev pa61 : Arguments := (by walk_at "my a" : Pk (cst 66 9) _)
noncomputable abbrev bo61 : List Stmt := (by walk_at "my b" : Pk (cst 66 9) _)
noncomputable abbrev sc61 : Scope := (by walk_at "my s" : Pk (cst 66 9) _)
noncomputable abbrev pa62 : Arguments := (by walk_at "my a" : Pk (cst 66 10) _)
noncomputable abbrev bo62 : List Stmt := (by walk_at "my b" : Pk (cst 66 10) _)
noncomputable abbrev sc62 : Scope := (by walk_at "my s" : Pk (cst 66 10) _)
noncomputable abbrev pa63 : Arguments := (by walk_at "my a" : Pk (cst 66 11) _)
noncomputable abbrev bo63 : List Stmt := (by walk_at "my b" : Pk (cst 66 11) _)
noncomputable abbrev sc63 : Scope := (by walk_at "my s" : Pk (cst 66 11) _)
noncomputable abbrev pa64 : Arguments := (by walk_at "my a" : Pk (st 67) _)
noncomputable abbrev bo64 : List Stmt := (by walk_at "my b" : Pk (st 67) _)
noncomputable abbrev sc64 : Scope := (by walk_at "my s" : Pk (st 67) _)
noncomputable abbrev pa65 : Arguments := (by walk_at "my a" : Pk (cst 68 0) _)
noncomputable abbrev bo65 : List Stmt := (by walk_at "my b" : Pk (cst 68 0) _)
noncomputable abbrev sc65 : Scope := (by walk_at "my s" : Pk (cst 68 0) _)
noncomputable abbrev pa66 : Arguments := (by walk_at "my a" : Pk (cst 68 1) _)
noncomputable abbrev bo66 : List Stmt := (by walk_at "my b" : Pk (cst 68 1) _)
noncomputable abbrev sc66 : Scope := (by walk_at "my s" : Pk (cst 68 1) _)
noncomputable abbrev pa67 : Arguments := (by walk_at "my a" : Pk (cst 68 2) _)
noncomputable abbrev bo67 : List Stmt := (by walk_at "my b" : Pk (cst 68 2) _)
noncomputable abbrev sc67 : Scope := (by walk_at "my s" : Pk (cst 68 2) _)
noncomputable abbrev pa68 : Arguments := (by walk_at "my a" : Pk (cst 68 3) _)
noncomputable abbrev bo68 : List Stmt := (by walk_at "my b" : Pk (cst 68 3) _)
noncomputable abbrev sc68 : Scope := (by walk_at "my s" : Pk (cst 68 3) _)
noncomputable abbrev pa69 : Arguments := (by walk_at "my a" : Pk (cst 68 4) _)
noncomputable abbrev bo69 : List Stmt := (by walk_at "my b" : Pk (cst 68 4) _)
noncomputable abbrev sc69 : Scope := (by walk_at "my s" : Pk (cst 68 4) _)
noncomputable abbrev pa70 : Arguments := (by walk_at "my a" : Pk (cst 68 5) _)
noncomputable abbrev bo70 : List Stmt := (by walk_at "my b" : Pk (cst 68 5) _)
noncomputable abbrev sc70 : Scope := (by walk_at "my s" : Pk (cst 68 5) _)
noncomputable abbrev pa71 : Arguments := (by walk_at "my a" : Pk (cst 68 6) _)
noncomputable abbrev bo71 : List Stmt := (by walk_at "my b" : Pk (cst 68 6) _)
noncomputable abbrev sc71 : Scope := (by walk_at "my s" : Pk (cst 68 6) _)
noncomputable abbrev pa72 : Arguments := (by walk_at "my a" : Pk (cst 68 7) _)
noncomputable abbrev bo72 : List Stmt := (by walk_at "my b" : Pk (cst 68 7) _)
noncomputable abbrev sc72 : Scope := (by walk_at "my s" : Pk (cst 68 7) _)
noncomputable abbrev pa73 : Arguments := (by walk_at "my a" : Pk (cst 68 8) _)
noncomputable abbrev bo73 : List Stmt := (by walk_at "my b" : Pk (cst 68 8) _)
noncomputable abbrev sc73 : Scope := (by walk_at "my s" : Pk (cst 68 8) _)
noncomputable abbrev pa74 : Arguments := (by walk_at "my a" : Pk (cst 68 9) _)
noncomputable abbrev bo74 : List Stmt := (by walk_at "my b" : Pk (cst 68 9) _)
noncomputable abbrev sc74 : Scope := (by walk_at "my s" : Pk (cst 68 9) _)
noncomputable abbrev pa75 : Arguments := (by walk_at "my a" : Pk (cst 68 10) _)
noncomputable abbrev bo75 : List Stmt := (by walk_at "my b" : Pk (cst 68 10) _)
noncomputable abbrev sc75 : Scope := (by walk_at "my s" : Pk (cst 68 10) _)
noncomputable abbrev pa76 : Arguments := (by walk_at "my a" : Pk (cst 68 11) _)
noncomputable abbrev bo76 : List Stmt := (by walk_at "my b" : Pk (cst 68 11) _)
noncomputable abbrev sc76 : Scope := (by walk_at "my s" : Pk (cst 68 11) _)
noncomputable abbrev pa77 : Arguments := (by walk_at "my a" : Pk (cst 68 12) _)
noncomputable abbrev bo77 : List Stmt := (by walk_at "my b" : Pk (cst 68 12) _)
noncomputable abbrev sc77 : Scope := (by walk_at "my s" : Pk (cst 68 12) _)
noncomputable abbrev pa78 : Arguments := (by walk_at "my a" : Pk (cst 68 13) _)
noncomputable abbrev bo78 : List Stmt := (by walk_at "my b" : Pk (cst 68 13) _)
noncomputable abbrev sc78 : Scope := (by walk_at "my s" : Pk (cst 68 13) _)
noncomputable abbrev pa79 : Arguments := (by walk_at "my a" : Pk (cst 70 0) _)
noncomputable abbrev bo79 : List Stmt := (by walk_at "my b" : Pk (cst 70 0) _)
noncomputable abbrev sc79 : Scope := (by walk_at "my s" : Pk (cst 70 0) _)
noncomputable abbrev pa80 : Arguments := (by walk_at "my a" : Pk (cst 70 1) _)
noncomputable abbrev bo80 : List Stmt := (by walk_at "my b" : Pk (cst 70 1) _)
noncomputable abbrev sc80 : Scope := (by walk_at "my s" : Pk (cst 70 1) _)
noncomputable abbrev pa81 : Arguments := (by walk_at "my a" : Pk (cst 70 2) _)
noncomputable abbrev bo81 : List Stmt := (by walk_at "my b" : Pk (cst 70 2) _)
noncomputable abbrev sc81 : Scope := (by walk_at "my s" : Pk (cst 70 2) _)
noncomputable abbrev pa82 : Arguments := (by walk_at "my a" : Pk (cst 70 3) _)
noncomputable abbrev bo82 : List Stmt := (by walk_at "my b" : Pk (cst 70 3) _)
noncomputable abbrev sc82 : Scope := (by walk_at "my s" : Pk (cst 70 3) _)
noncomputable abbrev pa83 : Arguments := (by walk_at "my a" : Pk (cst 71 0) _)
noncomputable abbrev bo83 : List Stmt := (by walk_at "my b" : Pk (cst 71 0) _)
noncomputable abbrev sc83 : Scope := (by walk_at "my s" : Pk (cst 71 0) _)
noncomputable abbrev pa84 : Arguments := (by walk_at "my a" : Pk (cst 71 1) _)
noncomputable abbrev bo84 : List Stmt := (by walk_at "my b" : Pk (cst 71 1) _)
noncomputable abbrev sc84 : Scope := (by walk_at "my s" : Pk (cst 71 1) _)
noncomputable abbrev pa85 : Arguments := (by walk_at "my a" : Pk (cst 71 2) _)
noncomputable abbrev bo85 : List Stmt := (by walk_at "my b" : Pk (cst 71 2) _)
noncomputable abbrev sc85 : Scope := (by walk_at "my s" : Pk (cst 71 2) _)
noncomputable abbrev pa86 : Arguments := (by walk_at "my a" : Pk (cst 72 0) _)
noncomputable abbrev bo86 : List Stmt := (by walk_at "my b" : Pk (cst 72 0) _)
noncomputable abbrev sc86 : Scope := (by walk_at "my s" : Pk (cst 72 0) _)
noncomputable abbrev pa87 : Arguments := (by walk_at "my a" : Pk (cst 72 1) _)
noncomputable abbrev bo87 : List Stmt := (by walk_at "my b" : Pk (cst 72 1) _)
noncomputable abbrev sc87 : Scope := (by walk_at "my s" : Pk (cst 72 1) _)
noncomputable abbrev pa88 : Arguments := (by walk_at "my a" : Pk (cst 72 2) _)
noncomputable abbrev bo88 : List Stmt := (by walk_at "my b" : Pk (cst 72 2) _)
noncomputable abbrev sc88 : Scope := (by walk_at "my s" : Pk (cst 72 2) _)
noncomputable abbrev pa89 : Arguments := (by walk_at "my a" : Pk (cst 72 3) _)
noncomputable abbrev bo89 : List Stmt := (by walk_at "my b" : Pk (cst 72 3) _)
noncomputable abbrev sc89 : Scope := (by walk_at "my s" : Pk (cst 72 3) _)
noncomputable abbrev pa90 : Arguments := (by walk_at "my a" : Pk (cst 73 0) _)
noncomputable abbrev bo90 : List Stmt := (by walk_at "my b" : Pk (cst 73 0) _)
noncomputable abbrev sc90 : Scope := (by walk_at "my s" : Pk (cst 73 0) _)
noncomputable abbrev pa91 : Arguments := (by walk_at "my a" : Pk (cst 73 1) _)
noncomputable abbrev bo91 : List Stmt := (by walk_at "my b" : Pk (cst 73 1) _)
noncomputable abbrev sc91 : Scope := (by walk_at "my s" : Pk (cst 73 1) _)
noncomputable abbrev pa92 : Arguments := (by walk_at "my a" : Pk (cst 73 2) _)
noncomputable abbrev bo92 : List Stmt := (by walk_at "my b" : Pk (cst 73 2) _)
noncomputable abbrev sc92 : Scope := (by walk_at "my s" : Pk (cst 73 2) _)
noncomputable abbrev pa93 : Arguments := (by walk_at "my a" : Pk (cst 73 3) _)
noncomputable abbrev bo93 : List Stmt := (by walk_at "my b" : Pk (cst 73 3) _)
noncomputable abbrev sc93 : Scope := (by walk_at "my s" : Pk (cst 73 3) _)
noncomputable abbrev pa94 : Arguments := (by walk_at "my a" : Pk (cst 73 4) _)
noncomputable abbrev bo94 : List Stmt := (by walk_at "my b" : Pk (cst 73 4) _)
noncomputable abbrev sc94 : Scope := (by walk_at "my s" : Pk (cst 73 4) _)
noncomputable abbrev pa95 : Arguments := (by walk_at "my a" : Pk (cst 73 5) _)
noncomputable abbrev bo95 : List Stmt := (by walk_at "my b" : Pk (cst 73 5) _)
noncomputable abbrev sc95 : Scope := (by walk_at "my s" : Pk (cst 73 5) _)
noncomputable abbrev pa96 : Arguments := (by walk_at "my a" : Pk (cst 74 0) _)
noncomputable abbrev bo96 : List Stmt := (by walk_at "my b" : Pk (cst 74 0) _)
noncomputable abbrev sc96 : Scope := (by walk_at "my s" : Pk (cst 74 0) _)
noncomputable abbrev pa97 : Arguments := (by walk_at "my a" : Pk (cst 74 1) _)
noncomputable abbrev bo97 : List Stmt := (by walk_at "my b" : Pk (cst 74 1) _)
noncomputable abbrev sc97 : Scope := (by walk_at "my s" : Pk (cst 74 1) _)
noncomputable abbrev pa98 : Arguments := (by walk_at "my a" : Pk (cst 74 2) _)
noncomputable abbrev bo98 : List Stmt := (by walk_at "my b" : Pk (cst 74 2) _)
noncomputable abbrev sc98 : Scope := (by walk_at "my s" : Pk (cst 74 2) _)
noncomputable abbrev pa99 : Arguments := (by walk_at "my a" : Pk (cst 74 3) _)
noncomputable abbrev bo99 : List Stmt := (by walk_at "my b" : Pk (cst 74 3) _)
noncomputable abbrev sc99 : Scope := (by walk_at "my s" : Pk (cst 74 3) _)
noncomputable abbrev pa100 : Arguments := (by walk_at "my a" : Pk (cst 74 4) _)
noncomputable abbrev bo100 : List Stmt := (by walk_at "my b" : Pk (cst 74 4) _)
noncomputable abbrev sc100 : Scope := (by walk_at "my s" : Pk (cst 74 4) _)
noncomputable abbrev pa101 : Arguments := (by walk_at "my a" : Pk (cst 74 5) _)
noncomputable abbrev bo101 : List Stmt := (by walk_at "my b" : Pk (cst 74 5) _)
noncomputable abbrev sc101 : Scope := (by walk_at "my s" : Pk (cst 74 5) _)
noncomputable abbrev pa102 : Arguments := (by walk_at "my a" : Pk (st 76) _)
noncomputable abbrev bo102 : List Stmt := (by walk_at "my b" : Pk (st 76) _)
noncomputable abbrev sc102 : Scope := (by walk_at "my s" : Pk (st 76) _)
noncomputable abbrev pa103 : Arguments := (by walk_at "my a" : Pk (st 80) _)
noncomputable abbrev bo103 : List Stmt := (by walk_at "my b" : Pk (st 80) _)
noncomputable abbrev sc103 : Scope := (by walk_at "my s" : Pk (st 80) _)
noncomputable abbrev pa104 : Arguments := (by walk_at "my a" : Pk (st 81) _)
noncomputable abbrev bo104 : List Stmt := (by walk_at "my b" : Pk (st 81) _)
noncomputable abbrev sc104 : Scope := (by walk_at "my s" : Pk (st 81) _)
noncomputable abbrev pa105 : Arguments := (by walk_at "my a" : Pk (st 82) _)
noncomputable abbrev bo105 : List Stmt := (by walk_at "my b" : Pk (st 82) _)
noncomputable abbrev sc105 : Scope := (by walk_at "my s" : Pk (st 82) _)
noncomputable abbrev pa106 : Arguments := (by walk_at "my a" : Pk (st 83) _)
noncomputable abbrev bo106 : List Stmt := (by walk_at "my b" : Pk (st 83) _)
noncomputable abbrev sc106 : Scope := (by walk_at "my s" : Pk (st 83) _)
noncomputable abbrev pa107 : Arguments := (by walk_at "my a" : Pk (st 87) _)
noncomputable abbrev bo107 : List Stmt := (by walk_at "my b" : Pk (st 87) _)
noncomputable abbrev sc107 : Scope := (by walk_at "my s" : Pk (st 87) _)
noncomputable abbrev pa108 : Arguments := (by walk_at "my a" : Pk (st 88) _)
noncomputable abbrev bo108 : List Stmt := (by walk_at "my b" : Pk (st 88) _)
noncomputable abbrev sc108 : Scope := (by walk_at "my s" : Pk (st 88) _)
noncomputable abbrev pa109 : Arguments := (by walk_at "my a" : Pk (st 89) _)
noncomputable abbrev bo109 : List Stmt := (by walk_at "my b" : Pk (st 89) _)
noncomputable abbrev sc109 : Scope := (by walk_at "my s" : Pk (st 89) _)
noncomputable abbrev pa110 : Arguments := (by walk_at "my a" : Pk (st 90) _)
noncomputable abbrev bo110 : List Stmt := (by walk_at "my b" : Pk (st 90) _)
noncomputable abbrev sc110 : Scope := (by walk_at "my s" : Pk (st 90) _)
noncomputable abbrev pa111 : Arguments := (by walk_at "my a" : Pk (st 91) _)
noncomputable abbrev bo111 : List Stmt := (by walk_at "my b" : Pk (st 91) _)
noncomputable abbrev sc111 : Scope := (by walk_at "my s" : Pk (st 91) _)
noncomputable abbrev pa112 : Arguments := (by walk_at "my a" : Pk (st 92) _)
noncomputable abbrev bo112 : List Stmt := (by walk_at "my b" : Pk (st 92) _)
noncomputable abbrev sc112 : Scope := (by walk_at "my s" : Pk (st 92) _)
noncomputable abbrev pa113 : Arguments := (by walk_at "my a" : Pk (st 93) _)
noncomputable abbrev bo113 : List Stmt := (by walk_at "my b" : Pk (st 93) _)
noncomputable abbrev sc113 : Scope := (by walk_at "my s" : Pk (st 93) _)
noncomputable abbrev pa114 : Arguments := (by walk_at "my a" : Pk (st 94) _)
noncomputable abbrev bo114 : List Stmt := (by walk_at "my b" : Pk (st 94) _)
noncomputable abbrev sc114 : Scope := (by walk_at "my s" : Pk (st 94) _)
noncomputable abbrev vS (s : String) (t : Nat) : Value := .str (Str.ofString s) t
noncomputable abbrev dE (P : Params) (s : String) (t : Nat) (v : Value) : DictEntry := ⟨PyData.keyHash P (Str.ofString s), .str (Str.ofString s) t, v⟩
noncomputable abbrev N := BT.node
noncomputable abbrev L := BT.nil
noncomputable abbrev o0 : Obj := ⟨.type "tuple", none, .seq #[] 0, #[]⟩
noncomputable abbrev o1 : Obj := ⟨.none, none, .fields #[], #[]⟩
noncomputable abbrev o2 : Obj := ⟨.type "code", none, .fields #[vS "<module>" 182, vS "<module>" 183, vS "/claim/cut.py" 184, .int 1 0, .int 0 0, .int 0 0, .int 0 0, .int 0 0, .ref 11, .bool false, .int 181 0, .ref 12, .none, .none, .none, .none, .int 185 0, .int 1 0, vS "/claim/cut.py" 186], #[]⟩
noncomputable abbrev o3 : Obj := ⟨.type "frame", none, .plain, #[some (.ref 13), some (.ref 3), some (.ref 3), none, some (vS "__main__" 164), none, some (.ref 0)]⟩
noncomputable abbrev o4 (P : Params) : Obj := ⟨.none, none, .dict #[dE P "type.__subclasses__.Exception.0" 230 (.int 46 0), dE P "type.__subclasses__.Exception.n" 231 (.int 1 0)] 2, #[]⟩
noncomputable abbrev o5 (P : Params) : Obj := ⟨.type "dict", none, .dict #[dE P "__name__" 165 (vS "octetmint.basics" 194), dE P "__doc__" 166 .none, dE P "__package__" 167 .none, dE P "__loader__" 168 (.builtin "__main__.__loader__#opaque"), dE P "__spec__" 169 .none, dE P "__annotations__" 170 (.ref 6), dE P "__builtins__" 171 (.ref 4), dE P "__file__" 173 (vS "/claim/cut.py" 172), dE P "__cached__" 174 .none, dE P "_wall" 193 (.ref 21), dE P "MintError" 233 (.ref 46)] 11, #[]⟩
noncomputable abbrev o6 : Obj := ⟨.none, none, .fields #[.int 1 0, .int 0 0, .ref 20, .int 5 0, .int 0 0, .ref 27], #[]⟩
noncomputable abbrev o9 : Obj := ⟨.type "tuple", none, .seq #[vS "k" 190] 0, #[]⟩
noncomputable abbrev o11 : Obj := ⟨.none, none, .func ⟨Str.ofString "_wall", Str.ofString "_wall", pa0, .stmts bo0, sc0, 0, [], .none, .none, .none, .none, none, .none, .none, 0⟩, #[]⟩
noncomputable abbrev o12 : Obj := ⟨.type "code", none, .fields #[vS "_wall" 187, vS "_wall" 188, vS "/claim/cut.py" 189, .int 1 0, .int 1 0, .int 0 0, .int 0 0, .int 3 0, .ref 15, .bool true, .int 181 0, .ref 16, .none, .ref 17, .ref 18, .ref 19, .int 191 0, .int 1 0, vS "/claim/cut.py" 192], #[]⟩
noncomputable abbrev o13 : Obj := ⟨.type "function", none, .func ⟨Str.ofString "_wall", Str.ofString "_wall", pa0, .stmts bo0, sc0, 3, [], .none, .none, .none, vS "__main__" 164, none, .ref 20, .none, 0⟩, #[]⟩
noncomputable abbrev o14 : Obj := ⟨.type "tuple", none, .seq #[.type "Exception"] 0, #[]⟩
noncomputable abbrev o15 : Obj := ⟨.type "builtin_function_or_method", none, .fields #[.builtin "type.__prepare__", .type "type"], #[]⟩
noncomputable abbrev o16 (P : Params) : Obj := ⟨.type "dict", none, .dict #[dE P "__module__" 203 (vS "octetmint.basics" 194), dE P "__qualname__" 205 (vS "MintError" 204), dE P "__firstlineno__" 207 (.int 5 206), dE P "__init__" 216 (.ref 36), dE P "told" 223 (.ref 43), dE P "__static_attributes__" 226 (.ref 44)] 6, #[]⟩
noncomputable abbrev o18 : Obj := ⟨.none, none, .fields #[.int 7 0, .int 4 0, .ref 35, .int 12 0, .int 4 0, .ref 42], #[]⟩
noncomputable abbrev o19 : Obj := ⟨.type "code", none, .fields #[vS "MintError" 198, vS "MintError" 199, vS "/claim/cut.py" 200, .int 5 0, .int 0 0, .int 0 0, .int 0 0, .int 0 0, .ref 25, .bool false, .int 181 0, .ref 26, .none, .none, .none, .none, .int 201 0, .int 5 0, vS "/claim/cut.py" 202], #[]⟩
noncomputable abbrev o20 : Obj := ⟨.type "frame", none, .plain, #[some (.ref 27), some (.ref 3), some (.ref 24), none, some (vS "octetmint.basics" 194), none, some (.ref 0)]⟩
noncomputable abbrev o21 : Obj := ⟨.type "tuple", none, .seq #[.none] 0, #[]⟩
noncomputable abbrev o24 : Obj := ⟨.type "tuple", none, .seq #[vS "self" 211, vS "what" 212, vS "at" 213] 0, #[]⟩
noncomputable abbrev o26 : Obj := ⟨.none, none, .func ⟨Str.ofString "__init__", Str.ofString "MintError.__init__", pa1, .stmts bo1, sc1, 0, [], .none, .none, .none, .none, none, .none, .none, 0⟩, #[]⟩
noncomputable abbrev o27 : Obj := ⟨.type "code", none, .fields #[vS "__init__" 208, vS "MintError.__init__" 209, vS "/claim/cut.py" 210, .int 7 0, .int 3 0, .int 0 0, .int 0 0, .int 3 0, .ref 30, .bool true, .int 181 0, .ref 31, .none, .ref 32, .ref 33, .ref 34, .int 214 0, .int 7 0, vS "/claim/cut.py" 215], #[]⟩
noncomputable abbrev o28 : Obj := ⟨.type "function", none, .func ⟨Str.ofString "__init__", Str.ofString "MintError.__init__", pa1, .stmts bo1, sc1, 3, [], .ref 29, .none, .none, vS "octetmint.basics" 194, none, .ref 35, .none, 0⟩, #[]⟩
noncomputable abbrev o31 : Obj := ⟨.type "tuple", none, .seq #[vS "self" 220] 0, #[]⟩
noncomputable abbrev o33 : Obj := ⟨.none, none, .func ⟨Str.ofString "told", Str.ofString "MintError.told", pa2, .stmts bo2, sc2, 0, [], .none, .none, .none, .none, none, .none, .none, 0⟩, #[]⟩
noncomputable abbrev o34 : Obj := ⟨.type "code", none, .fields #[vS "told" 217, vS "MintError.told" 218, vS "/claim/cut.py" 219, .int 12 0, .int 1 0, .int 0 0, .int 0 0, .int 3 0, .ref 37, .bool true, .int 181 0, .ref 38, .none, .ref 39, .ref 40, .ref 41, .int 221 0, .int 12 0, vS "/claim/cut.py" 222], #[]⟩
noncomputable abbrev o35 : Obj := ⟨.type "function", none, .func ⟨Str.ofString "told", Str.ofString "MintError.told", pa2, .stmts bo2, sc2, 3, [], .none, .none, .none, vS "octetmint.basics" 194, none, .ref 42, .none, 0⟩, #[]⟩
noncomputable abbrev o36 : Obj := ⟨.type "tuple", none, .seq #[vS "at" 224, vS "what" 225] 0, #[]⟩
noncomputable abbrev o37 (P : Params) : Obj := ⟨.type "dict", none, .dict #[dE P "__module__" 203 (vS "octetmint.basics" 194), dE P "__firstlineno__" 207 (.int 5 206), dE P "__init__" 216 (.ref 36), dE P "told" 223 (.ref 43), dE P "__static_attributes__" 226 (.ref 44), dE P "__weakref__" 228 (.ref 47), dE P "__doc__" 229 .none] 3, #[]⟩
noncomputable abbrev o38 : Obj := ⟨.type "type", none, .cls ⟨Str.ofString "MintError", [.type "Exception"], [.ref 46, .type "Exception", .type "BaseException", .type "object"], 45, Str.ofString "MintError", true, [], [], false, none, false⟩, #[some (.ref 22), none, some (vS "MintError" 196), some (vS "MintError" 204), some (.builtin "Exception.__new__"), some (.bool true)]⟩
noncomputable abbrev o39 : Obj := ⟨.type "getset_descriptor", none, .fields #[vS "__weakref__" 227, .ref 46, .builtin "ExceptionGroup.__weakref__", .none], #[]⟩
noncomputable abbrev o40 : Obj := ⟨.type "super", none, .fields #[.ref 46, .ref 46, .ref 46], #[]⟩
noncomputable abbrev o41 : Obj := ⟨.type "builtin_function_or_method", none, .fields #[.builtin "object.__init_subclass__", .ref 46], #[]⟩
noncomputable abbrev o42 (P : Params) : Obj := ⟨.type "dict", none, .dict #[dE P "__name__" 165 (vS "octetmint.basics" 194), dE P "__doc__" 166 .none, dE P "__package__" 167 .none, dE P "__loader__" 168 (.builtin "__main__.__loader__#opaque"), dE P "__spec__" 169 .none, dE P "__annotations__" 170 (.ref 6), dE P "__builtins__" 171 (.ref 4), dE P "__file__" 173 (vS "/claim/cut.py" 172), dE P "__cached__" 174 .none, dE P "_wall" 193 (.ref 21), dE P "MintError" 233 (.ref 46), dE P "OperandError" 249 (.ref 59)] 12, #[]⟩
noncomputable abbrev o43 : Obj := ⟨.none, none, .fields #[.int 1 0, .int 0 0, .ref 20, .int 5 0, .int 0 0, .ref 27, .int 16 0, .int 0 0, .ref 55], #[]⟩
noncomputable abbrev o44 : Obj := ⟨.type "type", none, .cls ⟨Str.ofString "MintError", [.type "Exception"], [.ref 46, .type "Exception", .type "BaseException", .type "object"], 45, Str.ofString "MintError", true, [], [.ref 59], false, none, false⟩, #[some (.ref 22), none, some (vS "MintError" 196), some (vS "MintError" 204), some (.builtin "Exception.__new__"), some (.bool true)]⟩
noncomputable abbrev o45 : Obj := ⟨.type "tuple", none, .seq #[.ref 46] 0, #[]⟩
noncomputable abbrev o47 (P : Params) : Obj := ⟨.type "dict", none, .dict #[dE P "__module__" 241 (vS "octetmint.basics" 194), dE P "__qualname__" 243 (vS "OperandError" 242), dE P "__firstlineno__" 245 (.int 16 244), dE P "__static_attributes__" 246 (.ref 57)] 4, #[]⟩
noncomputable abbrev o50 : Obj := ⟨.type "code", none, .fields #[vS "OperandError" 236, vS "OperandError" 237, vS "/claim/cut.py" 238, .int 16 0, .int 0 0, .int 0 0, .int 0 0, .int 0 0, .ref 53, .bool false, .int 181 0, .ref 54, .none, .none, .none, .none, .int 239 0, .int 16 0, vS "/claim/cut.py" 240], #[]⟩
noncomputable abbrev o51 : Obj := ⟨.type "frame", none, .plain, #[some (.ref 55), some (.ref 3), some (.ref 52), none, some (vS "octetmint.basics" 194), none, some (.ref 0)]⟩
noncomputable abbrev o53 (P : Params) : Obj := ⟨.type "dict", none, .dict #[dE P "__module__" 241 (vS "octetmint.basics" 194), dE P "__firstlineno__" 245 (.int 16 244), dE P "__static_attributes__" 246 (.ref 57), dE P "__doc__" 247 .none] 2, #[]⟩
noncomputable abbrev o54 : Obj := ⟨.type "type", none, .cls ⟨Str.ofString "OperandError", [.ref 46], [.ref 59, .ref 46, .type "Exception", .type "BaseException", .type "object"], 58, Str.ofString "OperandError", true, [], [], false, none, false⟩, #[some (.ref 50), none, some (vS "OperandError" 234), some (vS "OperandError" 242), some (.builtin "Exception.__new__"), some (.bool true)]⟩
noncomputable abbrev o55 : Obj := ⟨.type "super", none, .fields #[.ref 59, .ref 59, .ref 59], #[]⟩
noncomputable abbrev o56 : Obj := ⟨.type "builtin_function_or_method", none, .fields #[.builtin "object.__init_subclass__", .ref 59], #[]⟩
noncomputable abbrev o57 (P : Params) : Obj := ⟨.type "dict", none, .dict #[dE P "__name__" 165 (vS "octetmint.basics" 194), dE P "__doc__" 166 .none, dE P "__package__" 167 .none, dE P "__loader__" 168 (.builtin "__main__.__loader__#opaque"), dE P "__spec__" 169 .none, dE P "__annotations__" 170 (.ref 6), dE P "__builtins__" 171 (.ref 4), dE P "__file__" 173 (vS "/claim/cut.py" 172), dE P "__cached__" 174 .none, dE P "_wall" 193 (.ref 21), dE P "MintError" 233 (.ref 46), dE P "OperandError" 249 (.ref 59), dE P "MachineError" 265 (.ref 71), dE P "mask" 272 (.ref 80), dE P "wrap" 280 (.ref 87), dE P "signed" 289 (.ref 94), dE P "extended" 298 (.ref 101), dE P "bit" 306 (.ref 108), dE P "ones" 316 (.ref 115)] 19, #[]⟩
noncomputable abbrev o58 : Obj := ⟨.none, none, .fields #[.int 1 0, .int 0 0, .ref 20, .int 5 0, .int 0 0, .ref 27, .int 16 0, .int 0 0, .ref 55, .int 18 0, .int 0 0, .ref 67, .int 20 0, .int 0 0, .ref 79, .int 22 0, .int 0 0, .ref 86, .int 24 0, .int 0 0, .ref 93, .int 29 0, .int 0 0, .ref 100, .int 31 0, .int 0 0, .ref 107, .int 33 0, .int 0 0, .ref 114], #[]⟩
noncomputable abbrev o59 : Obj := ⟨.type "type", none, .cls ⟨Str.ofString "MintError", [.type "Exception"], [.ref 46, .type "Exception", .type "BaseException", .type "object"], 45, Str.ofString "MintError", true, [], [.ref 59, .ref 71], false, none, false⟩, #[some (.ref 22), none, some (vS "MintError" 196), some (vS "MintError" 204), some (.builtin "Exception.__new__"), some (.bool true)]⟩
noncomputable abbrev o62 (P : Params) : Obj := ⟨.type "dict", none, .dict #[dE P "__module__" 257 (vS "octetmint.basics" 194), dE P "__qualname__" 259 (vS "MachineError" 258), dE P "__firstlineno__" 261 (.int 18 260), dE P "__static_attributes__" 262 (.ref 69)] 4, #[]⟩
noncomputable abbrev o65 : Obj := ⟨.type "code", none, .fields #[vS "MachineError" 252, vS "MachineError" 253, vS "/claim/cut.py" 254, .int 18 0, .int 0 0, .int 0 0, .int 0 0, .int 0 0, .ref 65, .bool false, .int 181 0, .ref 66, .none, .none, .none, .none, .int 255 0, .int 18 0, vS "/claim/cut.py" 256], #[]⟩
noncomputable abbrev o66 : Obj := ⟨.type "frame", none, .plain, #[some (.ref 67), some (.ref 3), some (.ref 64), none, some (vS "octetmint.basics" 194), none, some (.ref 0)]⟩
noncomputable abbrev o68 (P : Params) : Obj := ⟨.type "dict", none, .dict #[dE P "__module__" 257 (vS "octetmint.basics" 194), dE P "__firstlineno__" 261 (.int 18 260), dE P "__static_attributes__" 262 (.ref 69), dE P "__doc__" 263 .none] 2, #[]⟩
noncomputable abbrev o69 : Obj := ⟨.type "type", none, .cls ⟨Str.ofString "MachineError", [.ref 46], [.ref 71, .ref 46, .type "Exception", .type "BaseException", .type "object"], 70, Str.ofString "MachineError", true, [], [], false, none, false⟩, #[some (.ref 62), none, some (vS "MachineError" 250), some (vS "MachineError" 258), some (.builtin "Exception.__new__"), some (.bool true)]⟩
noncomputable abbrev o70 : Obj := ⟨.type "super", none, .fields #[.ref 71, .ref 71, .ref 71], #[]⟩
noncomputable abbrev o71 : Obj := ⟨.type "builtin_function_or_method", none, .fields #[.builtin "object.__init_subclass__", .ref 71], #[]⟩
noncomputable abbrev o74 : Obj := ⟨.type "tuple", none, .seq #[vS "size" 269] 0, #[]⟩
noncomputable abbrev o76 : Obj := ⟨.none, none, .func ⟨Str.ofString "mask", Str.ofString "mask", pa3, .stmts bo3, sc3, 0, [], .none, .none, .none, .none, none, .none, .none, 0⟩, #[]⟩
noncomputable abbrev o77 : Obj := ⟨.type "code", none, .fields #[vS "mask" 266, vS "mask" 267, vS "/claim/cut.py" 268, .int 20 0, .int 1 0, .int 0 0, .int 0 0, .int 3 0, .ref 74, .bool true, .int 181 0, .ref 75, .none, .ref 76, .ref 77, .ref 78, .int 270 0, .int 20 0, vS "/claim/cut.py" 271], #[]⟩
noncomputable abbrev o78 : Obj := ⟨.type "function", none, .func ⟨Str.ofString "mask", Str.ofString "mask", pa3, .stmts bo3, sc3, 3, [], .none, .none, .none, vS "octetmint.basics" 194, none, .ref 79, .none, 0⟩, #[]⟩
noncomputable abbrev o81 : Obj := ⟨.type "tuple", none, .seq #[vS "worth" 276, vS "size" 277] 0, #[]⟩
noncomputable abbrev o83 : Obj := ⟨.none, none, .func ⟨Str.ofString "wrap", Str.ofString "wrap", pa4, .stmts bo4, sc4, 0, [], .none, .none, .none, .none, none, .none, .none, 0⟩, #[]⟩
noncomputable abbrev o84 : Obj := ⟨.type "code", none, .fields #[vS "wrap" 273, vS "wrap" 274, vS "/claim/cut.py" 275, .int 22 0, .int 2 0, .int 0 0, .int 0 0, .int 3 0, .ref 81, .bool true, .int 181 0, .ref 82, .none, .ref 83, .ref 84, .ref 85, .int 278 0, .int 22 0, vS "/claim/cut.py" 279], #[]⟩
noncomputable abbrev o85 : Obj := ⟨.type "function", none, .func ⟨Str.ofString "wrap", Str.ofString "wrap", pa4, .stmts bo4, sc4, 3, [], .none, .none, .none, vS "octetmint.basics" 194, none, .ref 86, .none, 0⟩, #[]⟩
noncomputable abbrev o88 : Obj := ⟨.type "tuple", none, .seq #[vS "worth" 284, vS "size" 285, vS "low" 286] 0, #[]⟩
noncomputable abbrev o90 : Obj := ⟨.none, none, .func ⟨Str.ofString "signed", Str.ofString "signed", pa5, .stmts bo5, sc5, 0, [], .none, .none, .none, .none, none, .none, .none, 0⟩, #[]⟩
noncomputable abbrev o91 : Obj := ⟨.type "code", none, .fields #[vS "signed" 281, vS "signed" 282, vS "/claim/cut.py" 283, .int 24 0, .int 2 0, .int 0 0, .int 0 0, .int 3 0, .ref 88, .bool true, .int 181 0, .ref 89, .none, .ref 90, .ref 91, .ref 92, .int 287 0, .int 24 0, vS "/claim/cut.py" 288], #[]⟩
noncomputable abbrev o92 : Obj := ⟨.type "function", none, .func ⟨Str.ofString "signed", Str.ofString "signed", pa5, .stmts bo5, sc5, 3, [], .none, .none, .none, vS "octetmint.basics" 194, none, .ref 93, .none, 0⟩, #[]⟩
noncomputable abbrev o95 : Obj := ⟨.type "tuple", none, .seq #[vS "worth" 293, vS "size" 294, vS "wide" 295] 0, #[]⟩
noncomputable abbrev o97 : Obj := ⟨.none, none, .func ⟨Str.ofString "extended", Str.ofString "extended", pa6, .stmts bo6, sc6, 0, [], .none, .none, .none, .none, none, .none, .none, 0⟩, #[]⟩
noncomputable abbrev o98 : Obj := ⟨.type "code", none, .fields #[vS "extended" 290, vS "extended" 291, vS "/claim/cut.py" 292, .int 29 0, .int 3 0, .int 0 0, .int 0 0, .int 3 0, .ref 95, .bool true, .int 181 0, .ref 96, .none, .ref 97, .ref 98, .ref 99, .int 296 0, .int 29 0, vS "/claim/cut.py" 297], #[]⟩
noncomputable abbrev o99 : Obj := ⟨.type "function", none, .func ⟨Str.ofString "extended", Str.ofString "extended", pa6, .stmts bo6, sc6, 3, [], .none, .none, .none, vS "octetmint.basics" 194, none, .ref 100, .none, 0⟩, #[]⟩
noncomputable abbrev o102 : Obj := ⟨.type "tuple", none, .seq #[vS "worth" 302, vS "n" 303] 0, #[]⟩
noncomputable abbrev o104 : Obj := ⟨.none, none, .func ⟨Str.ofString "bit", Str.ofString "bit", pa7, .stmts bo7, sc7, 0, [], .none, .none, .none, .none, none, .none, .none, 0⟩, #[]⟩
noncomputable abbrev o105 : Obj := ⟨.type "code", none, .fields #[vS "bit" 299, vS "bit" 300, vS "/claim/cut.py" 301, .int 31 0, .int 2 0, .int 0 0, .int 0 0, .int 3 0, .ref 102, .bool true, .int 181 0, .ref 103, .none, .ref 104, .ref 105, .ref 106, .int 304 0, .int 31 0, vS "/claim/cut.py" 305], #[]⟩
noncomputable abbrev o106 : Obj := ⟨.type "function", none, .func ⟨Str.ofString "bit", Str.ofString "bit", pa7, .stmts bo7, sc7, 3, [], .none, .none, .none, vS "octetmint.basics" 194, none, .ref 107, .none, 0⟩, #[]⟩
noncomputable abbrev o109 : Obj := ⟨.type "tuple", none, .seq #[vS "worth" 310, vS "size" 311, vS "rest" 312, vS "count" 313] 0, #[]⟩
noncomputable abbrev o111 : Obj := ⟨.none, none, .func ⟨Str.ofString "ones", Str.ofString "ones", pa8, .stmts bo8, sc8, 0, [], .none, .none, .none, .none, none, .none, .none, 0⟩, #[]⟩
noncomputable abbrev o112 : Obj := ⟨.type "code", none, .fields #[vS "ones" 307, vS "ones" 308, vS "/claim/cut.py" 309, .int 33 0, .int 2 0, .int 0 0, .int 0 0, .int 3 0, .ref 109, .bool true, .int 181 0, .ref 110, .none, .ref 111, .ref 112, .ref 113, .int 314 0, .int 33 0, vS "/claim/cut.py" 315], #[]⟩
noncomputable abbrev o113 : Obj := ⟨.type "function", none, .func ⟨Str.ofString "ones", Str.ofString "ones", pa8, .stmts bo8, sc8, 3, [], .none, .none, .none, vS "octetmint.basics" 194, none, .ref 114, .none, 0⟩, #[]⟩
noncomputable abbrev o114 (P : Params) : Obj := ⟨.type "dict", none, .dict #[dE P "__name__" 165 (vS "octetmint.flags" 334), dE P "__doc__" 166 .none, dE P "__package__" 167 .none, dE P "__loader__" 168 (.builtin "__main__.__loader__#opaque"), dE P "__spec__" 169 .none, dE P "__annotations__" 170 (.ref 6), dE P "__builtins__" 171 (.ref 4), dE P "__file__" 173 (vS "/claim/cut.py" 172), dE P "__cached__" 174 .none, dE P "_wall" 193 (.ref 21), dE P "MintError" 233 (.ref 46), dE P "OperandError" 249 (.ref 59), dE P "MachineError" 265 (.ref 71), dE P "mask" 272 (.ref 80), dE P "wrap" 280 (.ref 87), dE P "signed" 289 (.ref 94), dE P "extended" 298 (.ref 101), dE P "bit" 306 (.ref 108), dE P "ones" 316 (.ref 115), dE P "parity" 323 (.ref 122), dE P "CONDITIONS" 327 (vS "o no b ae e ne be a s ns p np l ge le g" 326), dE P "condition_names" 333 (.ref 129), dE P "CF" 337 (.int 0 336), dE P "PF" 339 (.int 2 338), dE P "AF" 341 (.int 4 340), dE P "ZF" 343 (.int 6 342), dE P "SF" 345 (.int 7 344), dE P "DF" 347 (.int 10 346), dE P "OF" 349 (.int 11 348), dE P "FLAG_NAMES" 351 (vS "cf pf af zf sf of df" 350)] 30, #[]⟩
noncomputable abbrev o115 : Obj := ⟨.none, none, .fields #[.int 1 0, .int 0 0, .ref 20, .int 5 0, .int 0 0, .ref 27, .int 16 0, .int 0 0, .ref 55, .int 18 0, .int 0 0, .ref 67, .int 20 0, .int 0 0, .ref 79, .int 22 0, .int 0 0, .ref 86, .int 24 0, .int 0 0, .ref 93, .int 29 0, .int 0 0, .ref 100, .int 31 0, .int 0 0, .ref 107, .int 33 0, .int 0 0, .ref 114, .int 40 0, .int 0 0, .ref 121, .int 44 0, .int 0 0, .ref 128], #[]⟩
noncomputable abbrev o118 : Obj := ⟨.type "tuple", none, .seq #[vS "worth" 320] 0, #[]⟩
noncomputable abbrev o120 : Obj := ⟨.none, none, .func ⟨Str.ofString "parity", Str.ofString "parity", pa9, .stmts bo9, sc9, 0, [], .none, .none, .none, .none, none, .none, .none, 0⟩, #[]⟩
noncomputable abbrev o121 : Obj := ⟨.type "code", none, .fields #[vS "parity" 317, vS "parity" 318, vS "/claim/cut.py" 319, .int 40 0, .int 1 0, .int 0 0, .int 0 0, .int 3 0, .ref 116, .bool true, .int 181 0, .ref 117, .none, .ref 118, .ref 119, .ref 120, .int 321 0, .int 40 0, vS "/claim/cut.py" 322], #[]⟩
noncomputable abbrev o122 : Obj := ⟨.type "function", none, .func ⟨Str.ofString "parity", Str.ofString "parity", pa9, .stmts bo9, sc9, 3, [], .none, .none, .none, vS "octetmint.basics" 194, none, .ref 121, .none, 0⟩, #[]⟩
noncomputable abbrev o127 : Obj := ⟨.none, none, .func ⟨Str.ofString "condition_names", Str.ofString "condition_names", pa10, .stmts bo10, sc10, 0, [], .none, .none, .none, .none, none, .none, .none, 0⟩, #[]⟩
noncomputable abbrev o128 : Obj := ⟨.type "code", none, .fields #[vS "condition_names" 328, vS "condition_names" 329, vS "/claim/cut.py" 330, .int 44 0, .int 0 0, .int 0 0, .int 0 0, .int 3 0, .ref 123, .bool true, .int 181 0, .ref 124, .none, .ref 125, .ref 126, .ref 127, .int 331 0, .int 44 0, vS "/claim/cut.py" 332], #[]⟩
noncomputable abbrev o129 : Obj := ⟨.type "function", none, .func ⟨Str.ofString "condition_names", Str.ofString "condition_names", pa10, .stmts bo10, sc10, 3, [], .none, .none, .none, vS "octetmint.forms" 324, none, .ref 128, .none, 0⟩, #[]⟩
noncomputable abbrev o130 (P : Params) : Obj := ⟨.type "dict", none, .dict #[dE P "__name__" 165 (vS "octetmint.flags" 334), dE P "__doc__" 166 .none, dE P "__package__" 167 .none, dE P "__loader__" 168 (.builtin "__main__.__loader__#opaque"), dE P "__spec__" 169 .none, dE P "__annotations__" 170 (.ref 6), dE P "__builtins__" 171 (.ref 4), dE P "__file__" 173 (vS "/claim/cut.py" 172), dE P "__cached__" 174 .none, dE P "_wall" 193 (.ref 21), dE P "MintError" 233 (.ref 46), dE P "OperandError" 249 (.ref 59), dE P "MachineError" 265 (.ref 71), dE P "mask" 272 (.ref 80), dE P "wrap" 280 (.ref 87), dE P "signed" 289 (.ref 94), dE P "extended" 298 (.ref 101), dE P "bit" 306 (.ref 108), dE P "ones" 316 (.ref 115), dE P "parity" 323 (.ref 122), dE P "CONDITIONS" 327 (vS "o no b ae e ne be a s ns p np l ge le g" 326), dE P "condition_names" 333 (.ref 129), dE P "CF" 337 (.int 0 336), dE P "PF" 339 (.int 2 338), dE P "AF" 341 (.int 4 340), dE P "ZF" 343 (.int 6 342), dE P "SF" 345 (.int 7 344), dE P "DF" 347 (.int 10 346), dE P "OF" 349 (.int 11 348), dE P "FLAG_NAMES" 351 (vS "cf pf af zf sf of df" 350), dE P "Flags" 451 (.ref 202)] 31, #[]⟩
noncomputable abbrev o131 : Obj := ⟨.none, none, .fields #[.int 1 0, .int 0 0, .ref 20, .int 5 0, .int 0 0, .ref 27, .int 16 0, .int 0 0, .ref 55, .int 18 0, .int 0 0, .ref 67, .int 20 0, .int 0 0, .ref 79, .int 22 0, .int 0 0, .ref 86, .int 24 0, .int 0 0, .ref 93, .int 29 0, .int 0 0, .ref 100, .int 31 0, .int 0 0, .ref 107, .int 33 0, .int 0 0, .ref 114, .int 40 0, .int 0 0, .ref 121, .int 44 0, .int 0 0, .ref 128, .int 55 0, .int 0 0, .ref 135], #[]⟩
noncomputable abbrev o134 (P : Params) : Obj := ⟨.type "dict", none, .dict #[dE P "__module__" 359 (vS "octetmint.flags" 334), dE P "__qualname__" 361 (vS "Flags" 360), dE P "__firstlineno__" 363 (.int 55 362), dE P "__init__" 370 (.ref 143), dE P "told" 377 (.ref 150), dE P "pack" 385 (.ref 157), dE P "unpack" 393 (.ref 164), dE P "unpack_low" 401 (.ref 171), dE P "copy" 408 (.ref 178), dE P "get" 417 (.ref 185), dE P "put" 429 (.ref 192), dE P "show" 436 (.ref 199), dE P "__static_attributes__" 444 (.ref 200)] 13, #[]⟩
noncomputable abbrev o136 : Obj := ⟨.none, none, .fields #[.int 57 0, .int 4 0, .ref 142, .int 66 0, .int 4 0, .ref 149, .int 69 0, .int 4 0, .ref 156, .int 73 0, .int 4 0, .ref 163, .int 82 0, .int 4 0, .ref 170, .int 89 0, .int 4 0, .ref 177, .int 92 0, .int 4 0, .ref 184, .int 98 0, .int 4 0, .ref 191, .int 106 0, .int 4 0, .ref 198], #[]⟩
noncomputable abbrev o137 : Obj := ⟨.type "code", none, .fields #[vS "Flags" 354, vS "Flags" 355, vS "/claim/cut.py" 356, .int 55 0, .int 0 0, .int 0 0, .int 0 0, .int 0 0, .ref 133, .bool false, .int 181 0, .ref 134, .none, .none, .none, .none, .int 357 0, .int 55 0, vS "/claim/cut.py" 358], #[]⟩
noncomputable abbrev o138 : Obj := ⟨.type "frame", none, .plain, #[some (.ref 135), some (.ref 3), some (.ref 132), none, some (vS "octetmint.flags" 334), none, some (.ref 0)]⟩
noncomputable abbrev o141 : Obj := ⟨.type "tuple", none, .seq #[vS "self" 367] 0, #[]⟩
noncomputable abbrev o143 : Obj := ⟨.none, none, .func ⟨Str.ofString "__init__", Str.ofString "Flags.__init__", pa11, .stmts bo11, sc11, 0, [], .none, .none, .none, .none, none, .none, .none, 0⟩, #[]⟩
noncomputable abbrev o144 : Obj := ⟨.type "code", none, .fields #[vS "__init__" 364, vS "Flags.__init__" 365, vS "/claim/cut.py" 366, .int 57 0, .int 1 0, .int 0 0, .int 0 0, .int 3 0, .ref 137, .bool true, .int 181 0, .ref 138, .none, .ref 139, .ref 140, .ref 141, .int 368 0, .int 57 0, vS "/claim/cut.py" 369], #[]⟩
noncomputable abbrev o145 : Obj := ⟨.type "function", none, .func ⟨Str.ofString "__init__", Str.ofString "Flags.__init__", pa11, .stmts bo11, sc11, 3, [], .none, .none, .none, vS "octetmint.flags" 334, none, .ref 142, .none, 0⟩, #[]⟩
noncomputable abbrev o148 : Obj := ⟨.type "tuple", none, .seq #[vS "self" 374] 0, #[]⟩
noncomputable abbrev o150 : Obj := ⟨.none, none, .func ⟨Str.ofString "told", Str.ofString "Flags.told", pa12, .stmts bo12, sc12, 0, [], .none, .none, .none, .none, none, .none, .none, 0⟩, #[]⟩
noncomputable abbrev o151 : Obj := ⟨.type "code", none, .fields #[vS "told" 371, vS "Flags.told" 372, vS "/claim/cut.py" 373, .int 66 0, .int 1 0, .int 0 0, .int 0 0, .int 3 0, .ref 144, .bool true, .int 181 0, .ref 145, .none, .ref 146, .ref 147, .ref 148, .int 375 0, .int 66 0, vS "/claim/cut.py" 376], #[]⟩
noncomputable abbrev o152 : Obj := ⟨.type "function", none, .func ⟨Str.ofString "told", Str.ofString "Flags.told", pa12, .stmts bo12, sc12, 3, [], .none, .none, .none, vS "octetmint.flags" 334, none, .ref 149, .none, 0⟩, #[]⟩
noncomputable abbrev o155 : Obj := ⟨.type "tuple", none, .seq #[vS "self" 381, vS "low" 382] 0, #[]⟩
noncomputable abbrev o157 : Obj := ⟨.none, none, .func ⟨Str.ofString "pack", Str.ofString "Flags.pack", pa13, .stmts bo13, sc13, 0, [], .none, .none, .none, .none, none, .none, .none, 0⟩, #[]⟩
noncomputable abbrev o158 : Obj := ⟨.type "code", none, .fields #[vS "pack" 378, vS "Flags.pack" 379, vS "/claim/cut.py" 380, .int 69 0, .int 1 0, .int 0 0, .int 0 0, .int 3 0, .ref 151, .bool true, .int 181 0, .ref 152, .none, .ref 153, .ref 154, .ref 155, .int 383 0, .int 69 0, vS "/claim/cut.py" 384], #[]⟩
noncomputable abbrev o159 : Obj := ⟨.type "function", none, .func ⟨Str.ofString "pack", Str.ofString "Flags.pack", pa13, .stmts bo13, sc13, 3, [], .none, .none, .none, vS "octetmint.flags" 334, none, .ref 156, .none, 0⟩, #[]⟩
noncomputable abbrev o162 : Obj := ⟨.type "tuple", none, .seq #[vS "self" 389, vS "number" 390] 0, #[]⟩
noncomputable abbrev o164 : Obj := ⟨.none, none, .func ⟨Str.ofString "unpack", Str.ofString "Flags.unpack", pa14, .stmts bo14, sc14, 0, [], .none, .none, .none, .none, none, .none, .none, 0⟩, #[]⟩
noncomputable abbrev o165 : Obj := ⟨.type "code", none, .fields #[vS "unpack" 386, vS "Flags.unpack" 387, vS "/claim/cut.py" 388, .int 73 0, .int 2 0, .int 0 0, .int 0 0, .int 3 0, .ref 158, .bool true, .int 181 0, .ref 159, .none, .ref 160, .ref 161, .ref 162, .int 391 0, .int 73 0, vS "/claim/cut.py" 392], #[]⟩
noncomputable abbrev o166 : Obj := ⟨.type "function", none, .func ⟨Str.ofString "unpack", Str.ofString "Flags.unpack", pa14, .stmts bo14, sc14, 3, [], .none, .none, .none, vS "octetmint.flags" 334, none, .ref 163, .none, 0⟩, #[]⟩
noncomputable abbrev o169 : Obj := ⟨.type "tuple", none, .seq #[vS "self" 397, vS "octet" 398] 0, #[]⟩
noncomputable abbrev o171 : Obj := ⟨.none, none, .func ⟨Str.ofString "unpack_low", Str.ofString "Flags.unpack_low", pa15, .stmts bo15, sc15, 0, [], .none, .none, .none, .none, none, .none, .none, 0⟩, #[]⟩
noncomputable abbrev o172 : Obj := ⟨.type "code", none, .fields #[vS "unpack_low" 394, vS "Flags.unpack_low" 395, vS "/claim/cut.py" 396, .int 82 0, .int 2 0, .int 0 0, .int 0 0, .int 3 0, .ref 165, .bool true, .int 181 0, .ref 166, .none, .ref 167, .ref 168, .ref 169, .int 399 0, .int 82 0, vS "/claim/cut.py" 400], #[]⟩
noncomputable abbrev o173 : Obj := ⟨.type "function", none, .func ⟨Str.ofString "unpack_low", Str.ofString "Flags.unpack_low", pa15, .stmts bo15, sc15, 3, [], .none, .none, .none, vS "octetmint.flags" 334, none, .ref 170, .none, 0⟩, #[]⟩
noncomputable abbrev o176 : Obj := ⟨.type "tuple", none, .seq #[vS "self" 405] 0, #[]⟩
noncomputable abbrev o178 : Obj := ⟨.none, none, .func ⟨Str.ofString "copy", Str.ofString "Flags.copy", pa16, .stmts bo16, sc16, 0, [], .none, .none, .none, .none, none, .none, .none, 0⟩, #[]⟩
noncomputable abbrev o179 : Obj := ⟨.type "code", none, .fields #[vS "copy" 402, vS "Flags.copy" 403, vS "/claim/cut.py" 404, .int 89 0, .int 1 0, .int 0 0, .int 0 0, .int 3 0, .ref 172, .bool true, .int 181 0, .ref 173, .none, .ref 174, .ref 175, .ref 176, .int 406 0, .int 89 0, vS "/claim/cut.py" 407], #[]⟩
noncomputable abbrev o180 : Obj := ⟨.type "function", none, .func ⟨Str.ofString "copy", Str.ofString "Flags.copy", pa16, .stmts bo16, sc16, 3, [], .none, .none, .none, vS "octetmint.flags" 334, none, .ref 177, .none, 0⟩, #[]⟩
noncomputable abbrev o183 : Obj := ⟨.type "tuple", none, .seq #[vS "self" 412, vS "name" 413, vS "names" 414] 0, #[]⟩
noncomputable abbrev o185 : Obj := ⟨.none, none, .func ⟨Str.ofString "get", Str.ofString "Flags.get", pa17, .stmts bo17, sc17, 0, [], .none, .none, .none, .none, none, .none, .none, 0⟩, #[]⟩
noncomputable abbrev o186 : Obj := ⟨.type "code", none, .fields #[vS "get" 409, vS "Flags.get" 410, vS "/claim/cut.py" 411, .int 92 0, .int 2 0, .int 0 0, .int 0 0, .int 3 0, .ref 179, .bool true, .int 181 0, .ref 180, .none, .ref 181, .ref 182, .ref 183, .int 415 0, .int 92 0, vS "/claim/cut.py" 416], #[]⟩
noncomputable abbrev o187 : Obj := ⟨.type "function", none, .func ⟨Str.ofString "get", Str.ofString "Flags.get", pa17, .stmts bo17, sc17, 3, [], .none, .none, .none, vS "octetmint.flags" 334, none, .ref 184, .none, 0⟩, #[]⟩
noncomputable abbrev o190 : Obj := ⟨.type "tuple", none, .seq #[vS "self" 421, vS "name" 422, vS "worth" 423, vS "spots" 424, vS "spot" 425, vS "number" 426] 0, #[]⟩
noncomputable abbrev o192 : Obj := ⟨.none, none, .func ⟨Str.ofString "put", Str.ofString "Flags.put", pa18, .stmts bo18, sc18, 0, [], .none, .none, .none, .none, none, .none, .none, 0⟩, #[]⟩
noncomputable abbrev o193 : Obj := ⟨.type "code", none, .fields #[vS "put" 418, vS "Flags.put" 419, vS "/claim/cut.py" 420, .int 98 0, .int 3 0, .int 0 0, .int 0 0, .int 3 0, .ref 186, .bool true, .int 181 0, .ref 187, .none, .ref 188, .ref 189, .ref 190, .int 427 0, .int 98 0, vS "/claim/cut.py" 428], #[]⟩
noncomputable abbrev o194 : Obj := ⟨.type "function", none, .func ⟨Str.ofString "put", Str.ofString "Flags.put", pa18, .stmts bo18, sc18, 3, [], .none, .none, .none, vS "octetmint.flags" 334, none, .ref 191, .none, 0⟩, #[]⟩
noncomputable abbrev o197 : Obj := ⟨.type "tuple", none, .seq #[vS "self" 433] 0, #[]⟩
noncomputable abbrev o199 : Obj := ⟨.none, none, .func ⟨Str.ofString "show", Str.ofString "Flags.show", pa19, .stmts bo19, sc19, 0, [], .none, .none, .none, .none, none, .none, .none, 0⟩, #[]⟩
noncomputable abbrev o200 : Obj := ⟨.type "code", none, .fields #[vS "show" 430, vS "Flags.show" 431, vS "/claim/cut.py" 432, .int 106 0, .int 1 0, .int 0 0, .int 0 0, .int 3 0, .ref 193, .bool true, .int 181 0, .ref 194, .none, .ref 195, .ref 196, .ref 197, .int 434 0, .int 106 0, vS "/claim/cut.py" 435], #[]⟩
noncomputable abbrev o201 : Obj := ⟨.type "function", none, .func ⟨Str.ofString "show", Str.ofString "Flags.show", pa19, .stmts bo19, sc19, 3, [], .none, .none, .none, vS "octetmint.flags" 334, none, .ref 198, .none, 0⟩, #[]⟩
noncomputable abbrev o202 : Obj := ⟨.type "tuple", none, .seq #[vS "af" 437, vS "cf" 438, vS "df" 439, vS "of" 440, vS "pf" 441, vS "sf" 442, vS "zf" 443] 0, #[]⟩
noncomputable abbrev o203 (P : Params) : Obj := ⟨.type "dict", none, .dict #[dE P "__module__" 359 (vS "octetmint.flags" 334), dE P "__firstlineno__" 363 (.int 55 362), dE P "__init__" 370 (.ref 143), dE P "told" 377 (.ref 150), dE P "pack" 385 (.ref 157), dE P "unpack" 393 (.ref 164), dE P "unpack_low" 401 (.ref 171), dE P "copy" 408 (.ref 178), dE P "get" 417 (.ref 185), dE P "put" 429 (.ref 192), dE P "show" 436 (.ref 199), dE P "__static_attributes__" 444 (.ref 200), dE P "__dict__" 446 (.ref 203), dE P "__weakref__" 448 (.ref 204), dE P "__doc__" 449 .none] 4, #[]⟩
noncomputable abbrev o204 : Obj := ⟨.type "type", none, .cls ⟨Str.ofString "Flags", [.type "object"], [.ref 202, .type "object"], 201, Str.ofString "Flags", true, [], [], false, none, false⟩, #[none, none, some (vS "Flags" 352), some (vS "Flags" 360), some (.builtin "object.__new__"), some (.bool true)]⟩
noncomputable abbrev o205 : Obj := ⟨.type "getset_descriptor", none, .fields #[vS "__dict__" 445, .ref 202, .builtin "function.__dict__", .builtin "function.__dict__#set"], #[]⟩
noncomputable abbrev o206 : Obj := ⟨.type "getset_descriptor", none, .fields #[vS "__weakref__" 447, .ref 202, .builtin "ExceptionGroup.__weakref__", .none], #[]⟩
noncomputable abbrev o207 : Obj := ⟨.type "super", none, .fields #[.ref 202, .ref 202, .ref 202], #[]⟩
noncomputable abbrev o208 : Obj := ⟨.type "builtin_function_or_method", none, .fields #[.builtin "object.__init_subclass__", .ref 202], #[]⟩
noncomputable abbrev o209 (P : Params) : Obj := ⟨.type "dict", none, .dict #[dE P "__name__" 165 (vS "octetmint.registers" 567), dE P "__doc__" 166 .none, dE P "__package__" 167 .none, dE P "__loader__" 168 (.builtin "__main__.__loader__#opaque"), dE P "__spec__" 169 .none, dE P "__annotations__" 170 (.ref 6), dE P "__builtins__" 171 (.ref 4), dE P "__file__" 173 (vS "/claim/cut.py" 172), dE P "__cached__" 174 .none, dE P "_wall" 193 (.ref 21), dE P "MintError" 233 (.ref 46), dE P "OperandError" 249 (.ref 59), dE P "MachineError" 265 (.ref 71), dE P "mask" 272 (.ref 80), dE P "wrap" 280 (.ref 87), dE P "signed" 289 (.ref 94), dE P "extended" 298 (.ref 101), dE P "bit" 306 (.ref 108), dE P "ones" 316 (.ref 115), dE P "parity" 323 (.ref 122), dE P "CONDITIONS" 327 (vS "o no b ae e ne be a s ns p np l ge le g" 326), dE P "condition_names" 333 (.ref 129), dE P "CF" 337 (.int 0 336), dE P "PF" 339 (.int 2 338), dE P "AF" 341 (.int 4 340), dE P "ZF" 343 (.int 6 342), dE P "SF" 345 (.int 7 344), dE P "DF" 347 (.int 10 346), dE P "OF" 349 (.int 11 348), dE P "FLAG_NAMES" 351 (vS "cf pf af zf sf of df" 350), dE P "Flags" 451 (.ref 202), dE P "condition_number" 458 (.ref 213), dE P "holds_number" 468 (.ref 220), dE P "holds" 476 (.ref 227), dE P "szp" 486 (.ref 234), dE P "add_flags" 501 (.ref 241), dE P "sub_flags" 516 (.ref 248), dE P "logic_flags" 525 (.ref 255), dE P "inc_flags" 536 (.ref 262), dE P "dec_flags" 547 (.ref 269), dE P "neg_flags" 556 (.ref 276), dE P "condition_of" 566 (.ref 283), dE P "NAMES_8" 570 (vS "al cl dl bl spl bpl sil dil" 569), dE P "NAMES_16" 572 (vS "ax cx dx bx sp bp si di" 571), dE P "NAMES_32" 574 (vS "eax ecx edx ebx esp ebp esi edi" 573)] 45, #[]⟩
noncomputable abbrev o210 : Obj := ⟨.none, none, .fields #[.int 1 0, .int 0 0, .ref 20, .int 5 0, .int 0 0, .ref 27, .int 16 0, .int 0 0, .ref 55, .int 18 0, .int 0 0, .ref 67, .int 20 0, .int 0 0, .ref 79, .int 22 0, .int 0 0, .ref 86, .int 24 0, .int 0 0, .ref 93, .int 29 0, .int 0 0, .ref 100, .int 31 0, .int 0 0, .ref 107, .int 33 0, .int 0 0, .ref 114, .int 40 0, .int 0 0, .ref 121, .int 44 0, .int 0 0, .ref 128, .int 55 0, .int 0 0, .ref 135, .int 108 0, .int 0 0, .ref 212, .int 112 0, .int 0 0, .ref 219, .int 131 0, .int 0 0, .ref 226, .int 133 0, .int 0 0, .ref 233, .int 139 0, .int 0 0, .ref 240, .int 147 0, .int 0 0, .ref 247, .int 155 0, .int 0 0, .ref 254, .int 160 0, .int 0 0, .ref 261, .int 165 0, .int 0 0, .ref 268, .int 170 0, .int 0 0, .ref 275, .int 173 0, .int 0 0, .ref 282], #[]⟩
noncomputable abbrev o213 : Obj := ⟨.type "tuple", none, .seq #[vS "condition" 455] 0, #[]⟩
noncomputable abbrev o215 : Obj := ⟨.none, none, .func ⟨Str.ofString "condition_number", Str.ofString "condition_number", pa20, .stmts bo20, sc20, 0, [], .none, .none, .none, .none, none, .none, .none, 0⟩, #[]⟩
noncomputable abbrev o216 : Obj := ⟨.type "code", none, .fields #[vS "condition_number" 452, vS "condition_number" 453, vS "/claim/cut.py" 454, .int 108 0, .int 1 0, .int 0 0, .int 0 0, .int 3 0, .ref 207, .bool true, .int 181 0, .ref 208, .none, .ref 209, .ref 210, .ref 211, .int 456 0, .int 108 0, vS "/claim/cut.py" 457], #[]⟩
noncomputable abbrev o217 : Obj := ⟨.type "function", none, .func ⟨Str.ofString "condition_number", Str.ofString "condition_number", pa20, .stmts bo20, sc20, 3, [], .none, .none, .none, vS "octetmint.flags" 334, none, .ref 212, .none, 0⟩, #[]⟩
noncomputable abbrev o220 : Obj := ⟨.type "tuple", none, .seq #[vS "flags" 462, vS "number" 463, vS "pair" 464, vS "truth" 465] 0, #[]⟩
noncomputable abbrev o222 : Obj := ⟨.none, none, .func ⟨Str.ofString "holds_number", Str.ofString "holds_number", pa21, .stmts bo21, sc21, 0, [], .none, .none, .none, .none, none, .none, .none, 0⟩, #[]⟩
noncomputable abbrev o223 : Obj := ⟨.type "code", none, .fields #[vS "holds_number" 459, vS "holds_number" 460, vS "/claim/cut.py" 461, .int 112 0, .int 2 0, .int 0 0, .int 0 0, .int 3 0, .ref 214, .bool true, .int 181 0, .ref 215, .none, .ref 216, .ref 217, .ref 218, .int 466 0, .int 112 0, vS "/claim/cut.py" 467], #[]⟩
noncomputable abbrev o224 : Obj := ⟨.type "function", none, .func ⟨Str.ofString "holds_number", Str.ofString "holds_number", pa21, .stmts bo21, sc21, 3, [], .none, .none, .none, vS "octetmint.flags" 334, none, .ref 219, .none, 0⟩, #[]⟩
noncomputable abbrev o227 : Obj := ⟨.type "tuple", none, .seq #[vS "flags" 472, vS "condition" 473] 0, #[]⟩
noncomputable abbrev o229 : Obj := ⟨.none, none, .func ⟨Str.ofString "holds", Str.ofString "holds", pa22, .stmts bo22, sc22, 0, [], .none, .none, .none, .none, none, .none, .none, 0⟩, #[]⟩
noncomputable abbrev o230 : Obj := ⟨.type "code", none, .fields #[vS "holds" 469, vS "holds" 470, vS "/claim/cut.py" 471, .int 131 0, .int 2 0, .int 0 0, .int 0 0, .int 3 0, .ref 221, .bool true, .int 181 0, .ref 222, .none, .ref 223, .ref 224, .ref 225, .int 474 0, .int 131 0, vS "/claim/cut.py" 475], #[]⟩
noncomputable abbrev o231 : Obj := ⟨.type "function", none, .func ⟨Str.ofString "holds", Str.ofString "holds", pa22, .stmts bo22, sc22, 3, [], .none, .none, .none, vS "octetmint.flags" 334, none, .ref 226, .none, 0⟩, #[]⟩
noncomputable abbrev o234 : Obj := ⟨.type "tuple", none, .seq #[vS "flags" 480, vS "result" 481, vS "size" 482, vS "told" 483] 0, #[]⟩
noncomputable abbrev o236 : Obj := ⟨.none, none, .func ⟨Str.ofString "szp", Str.ofString "szp", pa23, .stmts bo23, sc23, 0, [], .none, .none, .none, .none, none, .none, .none, 0⟩, #[]⟩
noncomputable abbrev o237 : Obj := ⟨.type "code", none, .fields #[vS "szp" 477, vS "szp" 478, vS "/claim/cut.py" 479, .int 133 0, .int 3 0, .int 0 0, .int 0 0, .int 3 0, .ref 228, .bool true, .int 181 0, .ref 229, .none, .ref 230, .ref 231, .ref 232, .int 484 0, .int 133 0, vS "/claim/cut.py" 485], #[]⟩
noncomputable abbrev o238 : Obj := ⟨.type "function", none, .func ⟨Str.ofString "szp", Str.ofString "szp", pa23, .stmts bo23, sc23, 3, [], .none, .none, .none, vS "octetmint.flags" 334, none, .ref 233, .none, 0⟩, #[]⟩
noncomputable abbrev o241 : Obj := ⟨.type "tuple", none, .seq #[vS "flags" 490, vS "a" 491, vS "b" 492, vS "carry" 493, vS "size" 494, vS "one" 495, vS "two" 496, vS "total" 497, vS "result" 498] 0, #[]⟩
noncomputable abbrev o243 : Obj := ⟨.none, none, .func ⟨Str.ofString "add_flags", Str.ofString "add_flags", pa24, .stmts bo24, sc24, 0, [], .none, .none, .none, .none, none, .none, .none, 0⟩, #[]⟩
noncomputable abbrev o244 : Obj := ⟨.type "code", none, .fields #[vS "add_flags" 487, vS "add_flags" 488, vS "/claim/cut.py" 489, .int 139 0, .int 5 0, .int 0 0, .int 0 0, .int 3 0, .ref 235, .bool true, .int 181 0, .ref 236, .none, .ref 237, .ref 238, .ref 239, .int 499 0, .int 139 0, vS "/claim/cut.py" 500], #[]⟩
noncomputable abbrev o245 : Obj := ⟨.type "function", none, .func ⟨Str.ofString "add_flags", Str.ofString "add_flags", pa24, .stmts bo24, sc24, 3, [], .none, .none, .none, vS "octetmint.flags" 334, none, .ref 240, .none, 0⟩, #[]⟩
noncomputable abbrev o248 : Obj := ⟨.type "tuple", none, .seq #[vS "flags" 505, vS "a" 506, vS "b" 507, vS "borrow" 508, vS "size" 509, vS "one" 510, vS "two" 511, vS "rest" 512, vS "result" 513] 0, #[]⟩
noncomputable abbrev o250 : Obj := ⟨.none, none, .func ⟨Str.ofString "sub_flags", Str.ofString "sub_flags", pa25, .stmts bo25, sc25, 0, [], .none, .none, .none, .none, none, .none, .none, 0⟩, #[]⟩
noncomputable abbrev o251 : Obj := ⟨.type "code", none, .fields #[vS "sub_flags" 502, vS "sub_flags" 503, vS "/claim/cut.py" 504, .int 147 0, .int 5 0, .int 0 0, .int 0 0, .int 3 0, .ref 242, .bool true, .int 181 0, .ref 243, .none, .ref 244, .ref 245, .ref 246, .int 514 0, .int 147 0, vS "/claim/cut.py" 515], #[]⟩
noncomputable abbrev o252 : Obj := ⟨.type "function", none, .func ⟨Str.ofString "sub_flags", Str.ofString "sub_flags", pa25, .stmts bo25, sc25, 3, [], .none, .none, .none, vS "octetmint.flags" 334, none, .ref 247, .none, 0⟩, #[]⟩
noncomputable abbrev o255 : Obj := ⟨.type "tuple", none, .seq #[vS "flags" 520, vS "result" 521, vS "size" 522] 0, #[]⟩
noncomputable abbrev o257 : Obj := ⟨.none, none, .func ⟨Str.ofString "logic_flags", Str.ofString "logic_flags", pa26, .stmts bo26, sc26, 0, [], .none, .none, .none, .none, none, .none, .none, 0⟩, #[]⟩
noncomputable abbrev o258 : Obj := ⟨.type "code", none, .fields #[vS "logic_flags" 517, vS "logic_flags" 518, vS "/claim/cut.py" 519, .int 155 0, .int 3 0, .int 0 0, .int 0 0, .int 3 0, .ref 249, .bool true, .int 181 0, .ref 250, .none, .ref 251, .ref 252, .ref 253, .int 523 0, .int 155 0, vS "/claim/cut.py" 524], #[]⟩
noncomputable abbrev o259 : Obj := ⟨.type "function", none, .func ⟨Str.ofString "logic_flags", Str.ofString "logic_flags", pa26, .stmts bo26, sc26, 3, [], .none, .none, .none, vS "octetmint.flags" 334, none, .ref 254, .none, 0⟩, #[]⟩
noncomputable abbrev o262 : Obj := ⟨.type "tuple", none, .seq #[vS "flags" 529, vS "a" 530, vS "size" 531, vS "kept" 532, vS "result" 533] 0, #[]⟩
noncomputable abbrev o264 : Obj := ⟨.none, none, .func ⟨Str.ofString "inc_flags", Str.ofString "inc_flags", pa27, .stmts bo27, sc27, 0, [], .none, .none, .none, .none, none, .none, .none, 0⟩, #[]⟩
noncomputable abbrev o265 : Obj := ⟨.type "code", none, .fields #[vS "inc_flags" 526, vS "inc_flags" 527, vS "/claim/cut.py" 528, .int 160 0, .int 3 0, .int 0 0, .int 0 0, .int 3 0, .ref 256, .bool true, .int 181 0, .ref 257, .none, .ref 258, .ref 259, .ref 260, .int 534 0, .int 160 0, vS "/claim/cut.py" 535], #[]⟩
noncomputable abbrev o266 : Obj := ⟨.type "function", none, .func ⟨Str.ofString "inc_flags", Str.ofString "inc_flags", pa27, .stmts bo27, sc27, 3, [], .none, .none, .none, vS "octetmint.flags" 334, none, .ref 261, .none, 0⟩, #[]⟩
noncomputable abbrev o269 : Obj := ⟨.type "tuple", none, .seq #[vS "flags" 540, vS "a" 541, vS "size" 542, vS "kept" 543, vS "result" 544] 0, #[]⟩
noncomputable abbrev o271 : Obj := ⟨.none, none, .func ⟨Str.ofString "dec_flags", Str.ofString "dec_flags", pa28, .stmts bo28, sc28, 0, [], .none, .none, .none, .none, none, .none, .none, 0⟩, #[]⟩
noncomputable abbrev o272 : Obj := ⟨.type "code", none, .fields #[vS "dec_flags" 537, vS "dec_flags" 538, vS "/claim/cut.py" 539, .int 165 0, .int 3 0, .int 0 0, .int 0 0, .int 3 0, .ref 263, .bool true, .int 181 0, .ref 264, .none, .ref 265, .ref 266, .ref 267, .int 545 0, .int 165 0, vS "/claim/cut.py" 546], #[]⟩
noncomputable abbrev o273 : Obj := ⟨.type "function", none, .func ⟨Str.ofString "dec_flags", Str.ofString "dec_flags", pa28, .stmts bo28, sc28, 3, [], .none, .none, .none, vS "octetmint.flags" 334, none, .ref 268, .none, 0⟩, #[]⟩
noncomputable abbrev o276 : Obj := ⟨.type "tuple", none, .seq #[vS "flags" 551, vS "a" 552, vS "size" 553] 0, #[]⟩
noncomputable abbrev o278 : Obj := ⟨.none, none, .func ⟨Str.ofString "neg_flags", Str.ofString "neg_flags", pa29, .stmts bo29, sc29, 0, [], .none, .none, .none, .none, none, .none, .none, 0⟩, #[]⟩
noncomputable abbrev o279 : Obj := ⟨.type "code", none, .fields #[vS "neg_flags" 548, vS "neg_flags" 549, vS "/claim/cut.py" 550, .int 170 0, .int 3 0, .int 0 0, .int 0 0, .int 3 0, .ref 270, .bool true, .int 181 0, .ref 271, .none, .ref 272, .ref 273, .ref 274, .int 554 0, .int 170 0, vS "/claim/cut.py" 555], #[]⟩
noncomputable abbrev o280 : Obj := ⟨.type "function", none, .func ⟨Str.ofString "neg_flags", Str.ofString "neg_flags", pa29, .stmts bo29, sc29, 3, [], .none, .none, .none, vS "octetmint.flags" 334, none, .ref 275, .none, 0⟩, #[]⟩
noncomputable abbrev o283 : Obj := ⟨.type "tuple", none, .seq #[vS "name" 562, vS "stem" 563] 0, #[]⟩
noncomputable abbrev o285 : Obj := ⟨.none, none, .func ⟨Str.ofString "condition_of", Str.ofString "condition_of", pa30, .stmts bo30, sc30, 0, [], .none, .none, .none, .none, none, .none, .none, 0⟩, #[]⟩
noncomputable abbrev o286 : Obj := ⟨.type "code", none, .fields #[vS "condition_of" 559, vS "condition_of" 560, vS "/claim/cut.py" 561, .int 173 0, .int 1 0, .int 0 0, .int 0 0, .int 3 0, .ref 277, .bool true, .int 181 0, .ref 278, .none, .ref 279, .ref 280, .ref 281, .int 564 0, .int 173 0, vS "/claim/cut.py" 565], #[]⟩
noncomputable abbrev o287 : Obj := ⟨.type "function", none, .func ⟨Str.ofString "condition_of", Str.ofString "condition_of", pa30, .stmts bo30, sc30, 3, [], .none, .none, .none, vS "octetmint.flow" 557, none, .ref 282, .none, 0⟩, #[]⟩
noncomputable abbrev o288 (P : Params) : Obj := ⟨.type "dict", none, .dict #[dE P "__name__" 165 (vS "octetmint.registers" 567), dE P "__doc__" 166 .none, dE P "__package__" 167 .none, dE P "__loader__" 168 (.builtin "__main__.__loader__#opaque"), dE P "__spec__" 169 .none, dE P "__annotations__" 170 (.ref 6), dE P "__builtins__" 171 (.ref 4), dE P "__file__" 173 (vS "/claim/cut.py" 172), dE P "__cached__" 174 .none, dE P "_wall" 193 (.ref 21), dE P "MintError" 233 (.ref 46), dE P "OperandError" 249 (.ref 59), dE P "MachineError" 265 (.ref 71), dE P "mask" 272 (.ref 80), dE P "wrap" 280 (.ref 87), dE P "signed" 289 (.ref 94), dE P "extended" 298 (.ref 101), dE P "bit" 306 (.ref 108), dE P "ones" 316 (.ref 115), dE P "parity" 323 (.ref 122), dE P "CONDITIONS" 327 (vS "o no b ae e ne be a s ns p np l ge le g" 326), dE P "condition_names" 333 (.ref 129), dE P "CF" 337 (.int 0 336), dE P "PF" 339 (.int 2 338), dE P "AF" 341 (.int 4 340), dE P "ZF" 343 (.int 6 342), dE P "SF" 345 (.int 7 344), dE P "DF" 347 (.int 10 346), dE P "OF" 349 (.int 11 348), dE P "FLAG_NAMES" 351 (vS "cf pf af zf sf of df" 350), dE P "Flags" 451 (.ref 202), dE P "condition_number" 458 (.ref 213), dE P "holds_number" 468 (.ref 220), dE P "holds" 476 (.ref 227), dE P "szp" 486 (.ref 234), dE P "add_flags" 501 (.ref 241), dE P "sub_flags" 516 (.ref 248), dE P "logic_flags" 525 (.ref 255), dE P "inc_flags" 536 (.ref 262), dE P "dec_flags" 547 (.ref 269), dE P "neg_flags" 556 (.ref 276), dE P "condition_of" 566 (.ref 283), dE P "NAMES_8" 570 (vS "al cl dl bl spl bpl sil dil" 569), dE P "NAMES_16" 572 (vS "ax cx dx bx sp bp si di" 571), dE P "NAMES_32" 574 (vS "eax ecx edx ebx esp ebp esi edi" 573), dE P "NAMES_64" 576 (vS "rax rcx rdx rbx rsp rbp rsi rdi" 575), dE P "HIGH_NAMES" 578 (vS "ah ch dh bh" 577)] 47, #[]⟩
noncomputable abbrev o289 (P : Params) : Obj := ⟨.type "dict", none, .dict #[dE P "__name__" 165 (vS "octetmint.registers" 567), dE P "__doc__" 166 .none, dE P "__package__" 167 .none, dE P "__loader__" 168 (.builtin "__main__.__loader__#opaque"), dE P "__spec__" 169 .none, dE P "__annotations__" 170 (.ref 6), dE P "__builtins__" 171 (.ref 4), dE P "__file__" 173 (vS "/claim/cut.py" 172), dE P "__cached__" 174 .none, dE P "_wall" 193 (.ref 21), dE P "MintError" 233 (.ref 46), dE P "OperandError" 249 (.ref 59), dE P "MachineError" 265 (.ref 71), dE P "mask" 272 (.ref 80), dE P "wrap" 280 (.ref 87), dE P "signed" 289 (.ref 94), dE P "extended" 298 (.ref 101), dE P "bit" 306 (.ref 108), dE P "ones" 316 (.ref 115), dE P "parity" 323 (.ref 122), dE P "CONDITIONS" 327 (vS "o no b ae e ne be a s ns p np l ge le g" 326), dE P "condition_names" 333 (.ref 129), dE P "CF" 337 (.int 0 336), dE P "PF" 339 (.int 2 338), dE P "AF" 341 (.int 4 340), dE P "ZF" 343 (.int 6 342), dE P "SF" 345 (.int 7 344), dE P "DF" 347 (.int 10 346), dE P "OF" 349 (.int 11 348), dE P "FLAG_NAMES" 351 (vS "cf pf af zf sf of df" 350), dE P "Flags" 451 (.ref 202), dE P "condition_number" 458 (.ref 213), dE P "holds_number" 468 (.ref 220), dE P "holds" 476 (.ref 227), dE P "szp" 486 (.ref 234), dE P "add_flags" 501 (.ref 241), dE P "sub_flags" 516 (.ref 248), dE P "logic_flags" 525 (.ref 255), dE P "inc_flags" 536 (.ref 262), dE P "dec_flags" 547 (.ref 269), dE P "neg_flags" 556 (.ref 276), dE P "condition_of" 566 (.ref 283), dE P "NAMES_8" 570 (vS "al cl dl bl spl bpl sil dil" 569), dE P "NAMES_16" 572 (vS "ax cx dx bx sp bp si di" 571), dE P "NAMES_32" 574 (vS "eax ecx edx ebx esp ebp esi edi" 573), dE P "NAMES_64" 576 (vS "rax rcx rdx rbx rsp rbp rsi rdi" 575), dE P "HIGH_NAMES" 578 (vS "ah ch dh bh" 577), dE P "Register" 648 (.ref 335)] 48, #[]⟩
noncomputable abbrev o290 : Obj := ⟨.none, none, .fields #[.int 1 0, .int 0 0, .ref 20, .int 5 0, .int 0 0, .ref 27, .int 16 0, .int 0 0, .ref 55, .int 18 0, .int 0 0, .ref 67, .int 20 0, .int 0 0, .ref 79, .int 22 0, .int 0 0, .ref 86, .int 24 0, .int 0 0, .ref 93, .int 29 0, .int 0 0, .ref 100, .int 31 0, .int 0 0, .ref 107, .int 33 0, .int 0 0, .ref 114, .int 40 0, .int 0 0, .ref 121, .int 44 0, .int 0 0, .ref 128, .int 55 0, .int 0 0, .ref 135, .int 108 0, .int 0 0, .ref 212, .int 112 0, .int 0 0, .ref 219, .int 131 0, .int 0 0, .ref 226, .int 133 0, .int 0 0, .ref 233, .int 139 0, .int 0 0, .ref 240, .int 147 0, .int 0 0, .ref 247, .int 155 0, .int 0 0, .ref 254, .int 160 0, .int 0 0, .ref 261, .int 165 0, .int 0 0, .ref 268, .int 170 0, .int 0 0, .ref 275, .int 173 0, .int 0 0, .ref 282, .int 184 0, .int 0 0, .ref 289], #[]⟩
noncomputable abbrev o293 (P : Params) : Obj := ⟨.type "dict", none, .dict #[dE P "__module__" 586 (vS "octetmint.registers" 567), dE P "__qualname__" 588 (vS "Register" 587), dE P "__firstlineno__" 590 (.int 184 589), dE P "__init__" 601 (.ref 297), dE P "code" 608 (.ref 304), dE P "is_extended" 615 (.ref 311), dE P "is_high" 622 (.ref 318), dE P "needs_rex" 629 (.ref 325), dE P "told" 636 (.ref 332), dE P "__static_attributes__" 641 (.ref 333)] 10, #[]⟩
noncomputable abbrev o295 : Obj := ⟨.none, none, .fields #[.int 186 0, .int 4 0, .ref 296, .int 192 0, .int 4 0, .ref 303, .int 195 0, .int 4 0, .ref 310, .int 198 0, .int 4 0, .ref 317, .int 201 0, .int 4 0, .ref 324, .int 204 0, .int 4 0, .ref 331], #[]⟩
noncomputable abbrev o296 : Obj := ⟨.type "code", none, .fields #[vS "Register" 581, vS "Register" 582, vS "/claim/cut.py" 583, .int 184 0, .int 0 0, .int 0 0, .int 0 0, .int 0 0, .ref 287, .bool false, .int 181 0, .ref 288, .none, .none, .none, .none, .int 584 0, .int 184 0, vS "/claim/cut.py" 585], #[]⟩
noncomputable abbrev o297 : Obj := ⟨.type "frame", none, .plain, #[some (.ref 289), some (.ref 3), some (.ref 286), none, some (vS "octetmint.registers" 567), none, some (.ref 0)]⟩
noncomputable abbrev o300 : Obj := ⟨.type "tuple", none, .seq #[vS "self" 594, vS "name" 595, vS "kind" 596, vS "number" 597, vS "size" 598] 0, #[]⟩
noncomputable abbrev o302 : Obj := ⟨.none, none, .func ⟨Str.ofString "__init__", Str.ofString "Register.__init__", pa31, .stmts bo31, sc31, 0, [], .none, .none, .none, .none, none, .none, .none, 0⟩, #[]⟩
noncomputable abbrev o303 : Obj := ⟨.type "code", none, .fields #[vS "__init__" 591, vS "Register.__init__" 592, vS "/claim/cut.py" 593, .int 186 0, .int 5 0, .int 0 0, .int 0 0, .int 3 0, .ref 291, .bool true, .int 181 0, .ref 292, .none, .ref 293, .ref 294, .ref 295, .int 599 0, .int 186 0, vS "/claim/cut.py" 600], #[]⟩
noncomputable abbrev o304 : Obj := ⟨.type "function", none, .func ⟨Str.ofString "__init__", Str.ofString "Register.__init__", pa31, .stmts bo31, sc31, 3, [], .none, .none, .none, vS "octetmint.registers" 567, none, .ref 296, .none, 0⟩, #[]⟩
noncomputable abbrev o307 : Obj := ⟨.type "tuple", none, .seq #[vS "self" 605] 0, #[]⟩
noncomputable abbrev o309 : Obj := ⟨.none, none, .func ⟨Str.ofString "code", Str.ofString "Register.code", pa32, .stmts bo32, sc32, 0, [], .none, .none, .none, .none, none, .none, .none, 0⟩, #[]⟩
noncomputable abbrev o310 : Obj := ⟨.type "code", none, .fields #[vS "code" 602, vS "Register.code" 603, vS "/claim/cut.py" 604, .int 192 0, .int 1 0, .int 0 0, .int 0 0, .int 3 0, .ref 298, .bool true, .int 181 0, .ref 299, .none, .ref 300, .ref 301, .ref 302, .int 606 0, .int 192 0, vS "/claim/cut.py" 607], #[]⟩
noncomputable abbrev o311 : Obj := ⟨.type "function", none, .func ⟨Str.ofString "code", Str.ofString "Register.code", pa32, .stmts bo32, sc32, 3, [], .none, .none, .none, vS "octetmint.registers" 567, none, .ref 303, .none, 0⟩, #[]⟩
noncomputable abbrev o314 : Obj := ⟨.type "tuple", none, .seq #[vS "self" 612] 0, #[]⟩
noncomputable abbrev o316 : Obj := ⟨.none, none, .func ⟨Str.ofString "is_extended", Str.ofString "Register.is_extended", pa33, .stmts bo33, sc33, 0, [], .none, .none, .none, .none, none, .none, .none, 0⟩, #[]⟩
noncomputable abbrev o317 : Obj := ⟨.type "code", none, .fields #[vS "is_extended" 609, vS "Register.is_extended" 610, vS "/claim/cut.py" 611, .int 195 0, .int 1 0, .int 0 0, .int 0 0, .int 3 0, .ref 305, .bool true, .int 181 0, .ref 306, .none, .ref 307, .ref 308, .ref 309, .int 613 0, .int 195 0, vS "/claim/cut.py" 614], #[]⟩
noncomputable abbrev o318 : Obj := ⟨.type "function", none, .func ⟨Str.ofString "is_extended", Str.ofString "Register.is_extended", pa33, .stmts bo33, sc33, 3, [], .none, .none, .none, vS "octetmint.registers" 567, none, .ref 310, .none, 0⟩, #[]⟩
noncomputable abbrev o321 : Obj := ⟨.type "tuple", none, .seq #[vS "self" 619] 0, #[]⟩
noncomputable abbrev o323 : Obj := ⟨.none, none, .func ⟨Str.ofString "is_high", Str.ofString "Register.is_high", pa34, .stmts bo34, sc34, 0, [], .none, .none, .none, .none, none, .none, .none, 0⟩, #[]⟩
noncomputable abbrev o324 : Obj := ⟨.type "code", none, .fields #[vS "is_high" 616, vS "Register.is_high" 617, vS "/claim/cut.py" 618, .int 198 0, .int 1 0, .int 0 0, .int 0 0, .int 3 0, .ref 312, .bool true, .int 181 0, .ref 313, .none, .ref 314, .ref 315, .ref 316, .int 620 0, .int 198 0, vS "/claim/cut.py" 621], #[]⟩
noncomputable abbrev o325 : Obj := ⟨.type "function", none, .func ⟨Str.ofString "is_high", Str.ofString "Register.is_high", pa34, .stmts bo34, sc34, 3, [], .none, .none, .none, vS "octetmint.registers" 567, none, .ref 317, .none, 0⟩, #[]⟩
noncomputable abbrev o328 : Obj := ⟨.type "tuple", none, .seq #[vS "self" 626] 0, #[]⟩
noncomputable abbrev o330 : Obj := ⟨.none, none, .func ⟨Str.ofString "needs_rex", Str.ofString "Register.needs_rex", pa35, .stmts bo35, sc35, 0, [], .none, .none, .none, .none, none, .none, .none, 0⟩, #[]⟩
noncomputable abbrev o331 : Obj := ⟨.type "code", none, .fields #[vS "needs_rex" 623, vS "Register.needs_rex" 624, vS "/claim/cut.py" 625, .int 201 0, .int 1 0, .int 0 0, .int 0 0, .int 3 0, .ref 319, .bool true, .int 181 0, .ref 320, .none, .ref 321, .ref 322, .ref 323, .int 627 0, .int 201 0, vS "/claim/cut.py" 628], #[]⟩
noncomputable abbrev o332 : Obj := ⟨.type "function", none, .func ⟨Str.ofString "needs_rex", Str.ofString "Register.needs_rex", pa35, .stmts bo35, sc35, 3, [], .none, .none, .none, vS "octetmint.registers" 567, none, .ref 324, .none, 0⟩, #[]⟩
noncomputable abbrev o335 : Obj := ⟨.type "tuple", none, .seq #[vS "self" 633] 0, #[]⟩
noncomputable abbrev o337 : Obj := ⟨.none, none, .func ⟨Str.ofString "told", Str.ofString "Register.told", pa36, .stmts bo36, sc36, 0, [], .none, .none, .none, .none, none, .none, .none, 0⟩, #[]⟩
noncomputable abbrev o338 : Obj := ⟨.type "code", none, .fields #[vS "told" 630, vS "Register.told" 631, vS "/claim/cut.py" 632, .int 204 0, .int 1 0, .int 0 0, .int 0 0, .int 3 0, .ref 326, .bool true, .int 181 0, .ref 327, .none, .ref 328, .ref 329, .ref 330, .int 634 0, .int 204 0, vS "/claim/cut.py" 635], #[]⟩
noncomputable abbrev o339 : Obj := ⟨.type "function", none, .func ⟨Str.ofString "told", Str.ofString "Register.told", pa36, .stmts bo36, sc36, 3, [], .none, .none, .none, vS "octetmint.registers" 567, none, .ref 331, .none, 0⟩, #[]⟩
noncomputable abbrev o340 : Obj := ⟨.type "tuple", none, .seq #[vS "kind" 637, vS "name" 638, vS "number" 639, vS "size" 640] 0, #[]⟩
noncomputable abbrev o341 (P : Params) : Obj := ⟨.type "dict", none, .dict #[dE P "__module__" 586 (vS "octetmint.registers" 567), dE P "__firstlineno__" 590 (.int 184 589), dE P "__init__" 601 (.ref 297), dE P "code" 608 (.ref 304), dE P "is_extended" 615 (.ref 311), dE P "is_high" 622 (.ref 318), dE P "needs_rex" 629 (.ref 325), dE P "told" 636 (.ref 332), dE P "__static_attributes__" 641 (.ref 333), dE P "__dict__" 643 (.ref 336), dE P "__weakref__" 645 (.ref 337), dE P "__doc__" 646 .none] 4, #[]⟩
noncomputable abbrev o342 : Obj := ⟨.type "type", none, .cls ⟨Str.ofString "Register", [.type "object"], [.ref 335, .type "object"], 334, Str.ofString "Register", true, [], [], false, none, false⟩, #[none, none, some (vS "Register" 579), some (vS "Register" 587), some (.builtin "object.__new__"), some (.bool true)]⟩
noncomputable abbrev o343 : Obj := ⟨.type "getset_descriptor", none, .fields #[vS "__dict__" 642, .ref 335, .builtin "function.__dict__", .builtin "function.__dict__#set"], #[]⟩
noncomputable abbrev o344 : Obj := ⟨.type "getset_descriptor", none, .fields #[vS "__weakref__" 644, .ref 335, .builtin "ExceptionGroup.__weakref__", .none], #[]⟩
noncomputable abbrev o345 : Obj := ⟨.type "super", none, .fields #[.ref 335, .ref 335, .ref 335], #[]⟩
noncomputable abbrev o346 : Obj := ⟨.type "builtin_function_or_method", none, .fields #[.builtin "object.__init_subclass__", .ref 335], #[]⟩
noncomputable abbrev o347 (P : Params) : Obj := ⟨.type "dict", none, .dict #[dE P "__name__" 165 (vS "octetmint.deeds" 679), dE P "__doc__" 166 .none, dE P "__package__" 167 .none, dE P "__loader__" 168 (.builtin "__main__.__loader__#opaque"), dE P "__spec__" 169 .none, dE P "__annotations__" 170 (.ref 6), dE P "__builtins__" 171 (.ref 4), dE P "__file__" 173 (vS "/claim/cut.py" 172), dE P "__cached__" 174 .none, dE P "_wall" 193 (.ref 21), dE P "MintError" 233 (.ref 46), dE P "OperandError" 249 (.ref 59), dE P "MachineError" 265 (.ref 71), dE P "mask" 272 (.ref 80), dE P "wrap" 280 (.ref 87), dE P "signed" 289 (.ref 94), dE P "extended" 298 (.ref 101), dE P "bit" 306 (.ref 108), dE P "ones" 316 (.ref 115), dE P "parity" 323 (.ref 122), dE P "CONDITIONS" 327 (vS "o no b ae e ne be a s ns p np l ge le g" 326), dE P "condition_names" 333 (.ref 129), dE P "CF" 337 (.int 0 336), dE P "PF" 339 (.int 2 338), dE P "AF" 341 (.int 4 340), dE P "ZF" 343 (.int 6 342), dE P "SF" 345 (.int 7 344), dE P "DF" 347 (.int 10 346), dE P "OF" 349 (.int 11 348), dE P "FLAG_NAMES" 351 (vS "cf pf af zf sf of df" 350), dE P "Flags" 451 (.ref 202), dE P "condition_number" 458 (.ref 213), dE P "holds_number" 468 (.ref 220), dE P "holds" 476 (.ref 227), dE P "szp" 486 (.ref 234), dE P "add_flags" 501 (.ref 241), dE P "sub_flags" 516 (.ref 248), dE P "logic_flags" 525 (.ref 255), dE P "inc_flags" 536 (.ref 262), dE P "dec_flags" 547 (.ref 269), dE P "neg_flags" 556 (.ref 276), dE P "condition_of" 566 (.ref 283), dE P "NAMES_8" 570 (vS "al cl dl bl spl bpl sil dil" 569), dE P "NAMES_16" 572 (vS "ax cx dx bx sp bp si di" 571), dE P "NAMES_32" 574 (vS "eax ecx edx ebx esp ebp esi edi" 573), dE P "NAMES_64" 576 (vS "rax rcx rdx rbx rsp rbp rsi rdi" 575), dE P "HIGH_NAMES" 578 (vS "ah ch dh bh" 577), dE P "Register" 648 (.ref 335), dE P "early_names" 655 (.ref 346), dE P "late_ending" 662 (.ref 353), dE P "gpr" 671 (.ref 360), dE P "high" 678 (.ref 367), dE P "AH_NUMBER" 682 (.int 4 681), dE P "combined" 693 (.ref 374), dE P "two_deed" 707 (.ref 381), dE P "one_deed" 719 (.ref 388), dE P "xadd_deed" 733 (.ref 395), dE P "cmpxchg_deed" 748 (.ref 402), dE P "flag_deed" 757 (.ref 409), dE P "set_deed" 766 (.ref 416)] 60, #[]⟩
noncomputable abbrev o348 : Obj := ⟨.none, none, .fields #[.int 1 0, .int 0 0, .ref 20, .int 5 0, .int 0 0, .ref 27, .int 16 0, .int 0 0, .ref 55, .int 18 0, .int 0 0, .ref 67, .int 20 0, .int 0 0, .ref 79, .int 22 0, .int 0 0, .ref 86, .int 24 0, .int 0 0, .ref 93, .int 29 0, .int 0 0, .ref 100, .int 31 0, .int 0 0, .ref 107, .int 33 0, .int 0 0, .ref 114, .int 40 0, .int 0 0, .ref 121, .int 44 0, .int 0 0, .ref 128, .int 55 0, .int 0 0, .ref 135, .int 108 0, .int 0 0, .ref 212, .int 112 0, .int 0 0, .ref 219, .int 131 0, .int 0 0, .ref 226, .int 133 0, .int 0 0, .ref 233, .int 139 0, .int 0 0, .ref 240, .int 147 0, .int 0 0, .ref 247, .int 155 0, .int 0 0, .ref 254, .int 160 0, .int 0 0, .ref 261, .int 165 0, .int 0 0, .ref 268, .int 170 0, .int 0 0, .ref 275, .int 173 0, .int 0 0, .ref 282, .int 184 0, .int 0 0, .ref 289, .int 206 0, .int 0 0, .ref 345, .int 216 0, .int 0 0, .ref 352, .int 224 0, .int 0 0, .ref 359, .int 231 0, .int 0 0, .ref 366, .int 237 0, .int 0 0, .ref 373, .int 251 0, .int 0 0, .ref 380, .int 258 0, .int 0 0, .ref 387, .int 271 0, .int 0 0, .ref 394, .int 282 0, .int 0 0, .ref 401, .int 292 0, .int 0 0, .ref 408, .int 308 0, .int 0 0, .ref 415], #[]⟩
noncomputable abbrev o351 : Obj := ⟨.type "tuple", none, .seq #[vS "size" 652] 0, #[]⟩
noncomputable abbrev o353 : Obj := ⟨.none, none, .func ⟨Str.ofString "early_names", Str.ofString "early_names", pa37, .stmts bo37, sc37, 0, [], .none, .none, .none, .none, none, .none, .none, 0⟩, #[]⟩
noncomputable abbrev o354 : Obj := ⟨.type "code", none, .fields #[vS "early_names" 649, vS "early_names" 650, vS "/claim/cut.py" 651, .int 206 0, .int 1 0, .int 0 0, .int 0 0, .int 3 0, .ref 340, .bool true, .int 181 0, .ref 341, .none, .ref 342, .ref 343, .ref 344, .int 653 0, .int 206 0, vS "/claim/cut.py" 654], #[]⟩
noncomputable abbrev o355 : Obj := ⟨.type "function", none, .func ⟨Str.ofString "early_names", Str.ofString "early_names", pa37, .stmts bo37, sc37, 3, [], .none, .none, .none, vS "octetmint.registers" 567, none, .ref 345, .none, 0⟩, #[]⟩
noncomputable abbrev o358 : Obj := ⟨.type "tuple", none, .seq #[vS "size" 659] 0, #[]⟩
noncomputable abbrev o360 : Obj := ⟨.none, none, .func ⟨Str.ofString "late_ending", Str.ofString "late_ending", pa38, .stmts bo38, sc38, 0, [], .none, .none, .none, .none, none, .none, .none, 0⟩, #[]⟩
noncomputable abbrev o361 : Obj := ⟨.type "code", none, .fields #[vS "late_ending" 656, vS "late_ending" 657, vS "/claim/cut.py" 658, .int 216 0, .int 1 0, .int 0 0, .int 0 0, .int 3 0, .ref 347, .bool true, .int 181 0, .ref 348, .none, .ref 349, .ref 350, .ref 351, .int 660 0, .int 216 0, vS "/claim/cut.py" 661], #[]⟩
noncomputable abbrev o362 : Obj := ⟨.type "function", none, .func ⟨Str.ofString "late_ending", Str.ofString "late_ending", pa38, .stmts bo38, sc38, 3, [], .none, .none, .none, vS "octetmint.registers" 567, none, .ref 352, .none, 0⟩, #[]⟩
noncomputable abbrev o365 : Obj := ⟨.type "tuple", none, .seq #[vS "number" 666, vS "size" 667, vS "names" 668] 0, #[]⟩
noncomputable abbrev o367 : Obj := ⟨.none, none, .func ⟨Str.ofString "gpr", Str.ofString "gpr", pa39, .stmts bo39, sc39, 0, [], .none, .none, .none, .none, none, .none, .none, 0⟩, #[]⟩
noncomputable abbrev o368 : Obj := ⟨.type "code", none, .fields #[vS "gpr" 663, vS "gpr" 664, vS "/claim/cut.py" 665, .int 224 0, .int 2 0, .int 0 0, .int 0 0, .int 3 0, .ref 354, .bool true, .int 181 0, .ref 355, .none, .ref 356, .ref 357, .ref 358, .int 669 0, .int 224 0, vS "/claim/cut.py" 670], #[]⟩
noncomputable abbrev o369 : Obj := ⟨.type "function", none, .func ⟨Str.ofString "gpr", Str.ofString "gpr", pa39, .stmts bo39, sc39, 3, [], .none, .none, .none, vS "octetmint.registers" 567, none, .ref 359, .none, 0⟩, #[]⟩
noncomputable abbrev o372 : Obj := ⟨.type "tuple", none, .seq #[vS "number" 675] 0, #[]⟩
noncomputable abbrev o374 : Obj := ⟨.none, none, .func ⟨Str.ofString "high", Str.ofString "high", pa40, .stmts bo40, sc40, 0, [], .none, .none, .none, .none, none, .none, .none, 0⟩, #[]⟩
noncomputable abbrev o375 : Obj := ⟨.type "code", none, .fields #[vS "high" 672, vS "high" 673, vS "/claim/cut.py" 674, .int 231 0, .int 1 0, .int 0 0, .int 0 0, .int 3 0, .ref 361, .bool true, .int 181 0, .ref 362, .none, .ref 363, .ref 364, .ref 365, .int 676 0, .int 231 0, vS "/claim/cut.py" 677], #[]⟩
noncomputable abbrev o376 : Obj := ⟨.type "function", none, .func ⟨Str.ofString "high", Str.ofString "high", pa40, .stmts bo40, sc40, 3, [], .none, .none, .none, vS "octetmint.registers" 567, none, .ref 366, .none, 0⟩, #[]⟩
noncomputable abbrev o379 : Obj := ⟨.type "tuple", none, .seq #[vS "flags" 686, vS "name" 687, vS "a" 688, vS "b" 689, vS "size" 690] 0, #[]⟩
noncomputable abbrev o381 : Obj := ⟨.none, none, .func ⟨Str.ofString "combined", Str.ofString "combined", pa41, .stmts bo41, sc41, 0, [], .none, .none, .none, .none, none, .none, .none, 0⟩, #[]⟩
noncomputable abbrev o382 : Obj := ⟨.type "code", none, .fields #[vS "combined" 683, vS "combined" 684, vS "/claim/cut.py" 685, .int 237 0, .int 5 0, .int 0 0, .int 0 0, .int 3 0, .ref 368, .bool true, .int 181 0, .ref 369, .none, .ref 370, .ref 371, .ref 372, .int 691 0, .int 237 0, vS "/claim/cut.py" 692], #[]⟩
noncomputable abbrev o383 : Obj := ⟨.type "function", none, .func ⟨Str.ofString "combined", Str.ofString "combined", pa41, .stmts bo41, sc41, 3, [], .none, .none, .none, vS "octetmint.deeds" 679, none, .ref 373, .none, 0⟩, #[]⟩
noncomputable abbrev o386 : Obj := ⟨.type "tuple", none, .seq #[vS "state" 697, vS "instruction" 698, vS "target" 699, vS "source" 700, vS "size" 701, vS "a" 702, vS "b" 703, vS "result" 704] 0, #[]⟩
noncomputable abbrev o388 : Obj := ⟨.none, none, .func ⟨Str.ofString "two_deed", Str.ofString "two_deed", pa42, .stmts bo42, sc42, 0, [], .none, .none, .none, .none, none, .none, .none, 0⟩, #[]⟩
noncomputable abbrev o389 : Obj := ⟨.type "code", none, .fields #[vS "two_deed" 694, vS "two_deed" 695, vS "/claim/cut.py" 696, .int 251 0, .int 2 0, .int 0 0, .int 0 0, .int 3 0, .ref 375, .bool true, .int 181 0, .ref 376, .none, .ref 377, .ref 378, .ref 379, .int 705 0, .int 251 0, vS "/claim/cut.py" 706], #[]⟩
noncomputable abbrev o390 : Obj := ⟨.type "function", none, .func ⟨Str.ofString "two_deed", Str.ofString "two_deed", pa42, .stmts bo42, sc42, 3, [], .none, .none, .none, vS "octetmint.deeds" 679, none, .ref 380, .none, 0⟩, #[]⟩
noncomputable abbrev o393 : Obj := ⟨.type "tuple", none, .seq #[vS "state" 711, vS "instruction" 712, vS "target" 713, vS "size" 714, vS "a" 715, vS "result" 716] 0, #[]⟩
noncomputable abbrev o395 : Obj := ⟨.none, none, .func ⟨Str.ofString "one_deed", Str.ofString "one_deed", pa43, .stmts bo43, sc43, 0, [], .none, .none, .none, .none, none, .none, .none, 0⟩, #[]⟩
noncomputable abbrev o396 : Obj := ⟨.type "code", none, .fields #[vS "one_deed" 708, vS "one_deed" 709, vS "/claim/cut.py" 710, .int 258 0, .int 2 0, .int 0 0, .int 0 0, .int 3 0, .ref 382, .bool true, .int 181 0, .ref 383, .none, .ref 384, .ref 385, .ref 386, .int 717 0, .int 258 0, vS "/claim/cut.py" 718], #[]⟩
noncomputable abbrev o397 : Obj := ⟨.type "function", none, .func ⟨Str.ofString "one_deed", Str.ofString "one_deed", pa43, .stmts bo43, sc43, 3, [], .none, .none, .none, vS "octetmint.deeds" 679, none, .ref 387, .none, 0⟩, #[]⟩
noncomputable abbrev o400 : Obj := ⟨.type "tuple", none, .seq #[vS "state" 723, vS "instruction" 724, vS "target" 725, vS "source" 726, vS "size" 727, vS "a" 728, vS "b" 729, vS "result" 730] 0, #[]⟩
noncomputable abbrev o402 : Obj := ⟨.none, none, .func ⟨Str.ofString "xadd_deed", Str.ofString "xadd_deed", pa44, .stmts bo44, sc44, 0, [], .none, .none, .none, .none, none, .none, .none, 0⟩, #[]⟩
noncomputable abbrev o403 : Obj := ⟨.type "code", none, .fields #[vS "xadd_deed" 720, vS "xadd_deed" 721, vS "/claim/cut.py" 722, .int 271 0, .int 2 0, .int 0 0, .int 0 0, .int 3 0, .ref 389, .bool true, .int 181 0, .ref 390, .none, .ref 391, .ref 392, .ref 393, .int 731 0, .int 271 0, vS "/claim/cut.py" 732], #[]⟩
noncomputable abbrev o404 : Obj := ⟨.type "function", none, .func ⟨Str.ofString "xadd_deed", Str.ofString "xadd_deed", pa44, .stmts bo44, sc44, 3, [], .none, .none, .none, vS "octetmint.deeds" 679, none, .ref 394, .none, 0⟩, #[]⟩
noncomputable abbrev o407 : Obj := ⟨.type "tuple", none, .seq #[vS "state" 737, vS "instruction" 738, vS "target" 739, vS "source" 740, vS "size" 741, vS "accumulator" 742, vS "a" 743, vS "old" 744, vS "new" 745] 0, #[]⟩
noncomputable abbrev o409 : Obj := ⟨.none, none, .func ⟨Str.ofString "cmpxchg_deed", Str.ofString "cmpxchg_deed", pa45, .stmts bo45, sc45, 0, [], .none, .none, .none, .none, none, .none, .none, 0⟩, #[]⟩
noncomputable abbrev o410 : Obj := ⟨.type "code", none, .fields #[vS "cmpxchg_deed" 734, vS "cmpxchg_deed" 735, vS "/claim/cut.py" 736, .int 282 0, .int 2 0, .int 0 0, .int 0 0, .int 3 0, .ref 396, .bool true, .int 181 0, .ref 397, .none, .ref 398, .ref 399, .ref 400, .int 746 0, .int 282 0, vS "/claim/cut.py" 747], #[]⟩
noncomputable abbrev o411 : Obj := ⟨.type "function", none, .func ⟨Str.ofString "cmpxchg_deed", Str.ofString "cmpxchg_deed", pa45, .stmts bo45, sc45, 3, [], .none, .none, .none, vS "octetmint.deeds" 679, none, .ref 401, .none, 0⟩, #[]⟩
noncomputable abbrev o414 : Obj := ⟨.type "tuple", none, .seq #[vS "state" 752, vS "name" 753, vS "flags" 754] 0, #[]⟩
noncomputable abbrev o416 : Obj := ⟨.none, none, .func ⟨Str.ofString "flag_deed", Str.ofString "flag_deed", pa46, .stmts bo46, sc46, 0, [], .none, .none, .none, .none, none, .none, .none, 0⟩, #[]⟩
noncomputable abbrev o417 : Obj := ⟨.type "code", none, .fields #[vS "flag_deed" 749, vS "flag_deed" 750, vS "/claim/cut.py" 751, .int 292 0, .int 2 0, .int 0 0, .int 0 0, .int 3 0, .ref 403, .bool true, .int 181 0, .ref 404, .none, .ref 405, .ref 406, .ref 407, .int 755 0, .int 292 0, vS "/claim/cut.py" 756], #[]⟩
noncomputable abbrev o418 : Obj := ⟨.type "function", none, .func ⟨Str.ofString "flag_deed", Str.ofString "flag_deed", pa46, .stmts bo46, sc46, 3, [], .none, .none, .none, vS "octetmint.deeds" 679, none, .ref 408, .none, 0⟩, #[]⟩
noncomputable abbrev o421 : Obj := ⟨.type "tuple", none, .seq #[vS "state" 761, vS "instruction" 762, vS "truth" 763] 0, #[]⟩
noncomputable abbrev o423 : Obj := ⟨.none, none, .func ⟨Str.ofString "set_deed", Str.ofString "set_deed", pa47, .stmts bo47, sc47, 0, [], .none, .none, .none, .none, none, .none, .none, 0⟩, #[]⟩
noncomputable abbrev o424 : Obj := ⟨.type "code", none, .fields #[vS "set_deed" 758, vS "set_deed" 759, vS "/claim/cut.py" 760, .int 308 0, .int 2 0, .int 0 0, .int 0 0, .int 3 0, .ref 410, .bool true, .int 181 0, .ref 411, .none, .ref 412, .ref 413, .ref 414, .int 764 0, .int 308 0, vS "/claim/cut.py" 765], #[]⟩
noncomputable abbrev o425 : Obj := ⟨.type "function", none, .func ⟨Str.ofString "set_deed", Str.ofString "set_deed", pa47, .stmts bo47, sc47, 3, [], .none, .none, .none, vS "octetmint.deeds" 679, none, .ref 415, .none, 0⟩, #[]⟩
noncomputable abbrev o426 (P : Params) : Obj := ⟨.type "dict", none, (.dict #[dE P "__name__" 165 (vS "octetmint.machine" 816), dE P "__doc__" 166 .none, dE P "__package__" 167 .none, dE P "__loader__" 168 (.builtin "__main__.__loader__#opaque"), dE P "__spec__" 169 .none, dE P "__annotations__" 170 (.ref 6), dE P "__builtins__" 171 (.ref 4), dE P "__file__" 173 (vS "/claim/cut.py" 172), dE P "__cached__" 174 .none, dE P "_wall" 193 (.ref 21), dE P "MintError" 233 (.ref 46), dE P "OperandError" 249 (.ref 59), dE P "MachineError" 265 (.ref 71), dE P "mask" 272 (.ref 80), dE P "wrap" 280 (.ref 87), dE P "signed" 289 (.ref 94), dE P "extended" 298 (.ref 101), dE P "bit" 306 (.ref 108), dE P "ones" 316 (.ref 115), dE P "parity" 323 (.ref 122), dE P "CONDITIONS" 327 (vS "o no b ae e ne be a s ns p np l ge le g" 326), dE P "condition_names" 333 (.ref 129), dE P "CF" 337 (.int 0 336), dE P "PF" 339 (.int 2 338), dE P "AF" 341 (.int 4 340), dE P "ZF" 343 (.int 6 342), dE P "SF" 345 (.int 7 344), dE P "DF" 347 (.int 10 346), dE P "OF" 349 (.int 11 348), dE P "FLAG_NAMES" 351 (vS "cf pf af zf sf of df" 350), dE P "Flags" 451 (.ref 202), dE P "condition_number" 458 (.ref 213), dE P "holds_number" 468 (.ref 220), dE P "holds" 476 (.ref 227), dE P "szp" 486 (.ref 234), dE P "add_flags" 501 (.ref 241), dE P "sub_flags" 516 (.ref 248), dE P "logic_flags" 525 (.ref 255), dE P "inc_flags" 536 (.ref 262), dE P "dec_flags" 547 (.ref 269), dE P "neg_flags" 556 (.ref 276), dE P "condition_of" 566 (.ref 283), dE P "NAMES_8" 570 (vS "al cl dl bl spl bpl sil dil" 569), dE P "NAMES_16" 572 (vS "ax cx dx bx sp bp si di" 571), dE P "NAMES_32" 574 (vS "eax ecx edx ebx esp ebp esi edi" 573), dE P "NAMES_64" 576 (vS "rax rcx rdx rbx rsp rbp rsi rdi" 575), dE P "HIGH_NAMES" 578 (vS "ah ch dh bh" 577), dE P "Register" 648 (.ref 335), dE P "early_names" 655 (.ref 346), dE P "late_ending" 662 (.ref 353), dE P "gpr" 671 (.ref 360), dE P "high" 678 (.ref 367), dE P "AH_NUMBER" 682 (.int 4 681), dE P "combined" 693 (.ref 374), dE P "two_deed" 707 (.ref 381), dE P "one_deed" 719 (.ref 388), dE P "xadd_deed" 733 (.ref 395), dE P "cmpxchg_deed" 748 (.ref 402), dE P "flag_deed" 757 (.ref 409), dE P "set_deed" 766 (.ref 416), dE P "cmov_deed" 779 (.ref 423), dE P "arith_deed" 788 (.ref 430), dE P "ALIASES" 792 (vS "c:b nae:b nb:ae nc:ae z:e nz:ne na:be nbe:a pe:p po:np nge:l nl:ge ng:le nle:g" 791), dE P "OTHER_NAMES" 794 (vS "sal:shl loopz:loope loopnz:loopne repe:rep repz:rep repnz:repne" 793), dE P "pairs_of" 805 (.ref 437), dE P "canonical" 815 (.ref 444), dE P "STACK" 819 (.int 4 818)] 67), #[]⟩
noncomputable abbrev o427 : Obj := ⟨.none, none, .fields #[.int 1 0, .int 0 0, .ref 20, .int 5 0, .int 0 0, .ref 27, .int 16 0, .int 0 0, .ref 55, .int 18 0, .int 0 0, .ref 67, .int 20 0, .int 0 0, .ref 79, .int 22 0, .int 0 0, .ref 86, .int 24 0, .int 0 0, .ref 93, .int 29 0, .int 0 0, .ref 100, .int 31 0, .int 0 0, .ref 107, .int 33 0, .int 0 0, .ref 114, .int 40 0, .int 0 0, .ref 121, .int 44 0, .int 0 0, .ref 128, .int 55 0, .int 0 0, .ref 135, .int 108 0, .int 0 0, .ref 212, .int 112 0, .int 0 0, .ref 219, .int 131 0, .int 0 0, .ref 226, .int 133 0, .int 0 0, .ref 233, .int 139 0, .int 0 0, .ref 240, .int 147 0, .int 0 0, .ref 247, .int 155 0, .int 0 0, .ref 254, .int 160 0, .int 0 0, .ref 261, .int 165 0, .int 0 0, .ref 268, .int 170 0, .int 0 0, .ref 275, .int 173 0, .int 0 0, .ref 282, .int 184 0, .int 0 0, .ref 289, .int 206 0, .int 0 0, .ref 345, .int 216 0, .int 0 0, .ref 352, .int 224 0, .int 0 0, .ref 359, .int 231 0, .int 0 0, .ref 366, .int 237 0, .int 0 0, .ref 373, .int 251 0, .int 0 0, .ref 380, .int 258 0, .int 0 0, .ref 387, .int 271 0, .int 0 0, .ref 394, .int 282 0, .int 0 0, .ref 401, .int 292 0, .int 0 0, .ref 408, .int 308 0, .int 0 0, .ref 415, .int 311 0, .int 0 0, .ref 422, .int 316 0, .int 0 0, .ref 429, .int 338 0, .int 0 0, .ref 436, .int 344 0, .int 0 0, .ref 443], #[]⟩
noncomputable abbrev o430 : Obj := ⟨.type "tuple", none, .seq #[vS "state" 770, vS "instruction" 771, vS "target" 772, vS "source" 773, vS "size" 774, vS "old" 775, vS "new" 776] 0, #[]⟩
noncomputable abbrev o432 : Obj := ⟨.none, none, .func ⟨Str.ofString "cmov_deed", Str.ofString "cmov_deed", pa48, .stmts bo48, sc48, 0, [], .none, .none, .none, .none, none, .none, .none, 0⟩, #[]⟩
noncomputable abbrev o433 : Obj := ⟨.type "code", none, .fields #[vS "cmov_deed" 767, vS "cmov_deed" 768, vS "/claim/cut.py" 769, .int 311 0, .int 2 0, .int 0 0, .int 0 0, .int 3 0, .ref 417, .bool true, .int 181 0, .ref 418, .none, .ref 419, .ref 420, .ref 421, .int 777 0, .int 311 0, vS "/claim/cut.py" 778], #[]⟩
noncomputable abbrev o434 : Obj := ⟨.type "function", none, .func ⟨Str.ofString "cmov_deed", Str.ofString "cmov_deed", pa48, .stmts bo48, sc48, 3, [], .none, .none, .none, vS "octetmint.deeds" 679, none, .ref 422, .none, 0⟩, #[]⟩
noncomputable abbrev o437 : Obj := ⟨.type "tuple", none, .seq #[vS "state" 783, vS "instruction" 784, vS "name" 785] 0, #[]⟩
noncomputable abbrev o439 : Obj := ⟨.none, none, .func ⟨Str.ofString "arith_deed", Str.ofString "arith_deed", pa49, .stmts bo49, sc49, 0, [], .none, .none, .none, .none, none, .none, .none, 0⟩, #[]⟩
noncomputable abbrev o440 : Obj := ⟨.type "code", none, .fields #[vS "arith_deed" 780, vS "arith_deed" 781, vS "/claim/cut.py" 782, .int 316 0, .int 2 0, .int 0 0, .int 0 0, .int 3 0, .ref 424, .bool true, .int 181 0, .ref 425, .none, .ref 426, .ref 427, .ref 428, .int 786 0, .int 316 0, vS "/claim/cut.py" 787], #[]⟩
noncomputable abbrev o441 : Obj := ⟨.type "function", none, .func ⟨Str.ofString "arith_deed", Str.ofString "arith_deed", pa49, .stmts bo49, sc49, 3, [], .none, .none, .none, vS "octetmint.deeds" 679, none, .ref 429, .none, 0⟩, #[]⟩
noncomputable abbrev o444 : Obj := ⟨.type "tuple", none, .seq #[vS "text" 798, vS "table" 799, vS "word" 800, vS "key" 801, vS "value" 802] 0, #[]⟩
noncomputable abbrev o446 : Obj := ⟨.none, none, .func ⟨Str.ofString "pairs_of", Str.ofString "pairs_of", pa50, .stmts bo50, sc50, 0, [], .none, .none, .none, .none, none, .none, .none, 0⟩, #[]⟩
noncomputable abbrev o447 : Obj := ⟨.type "code", none, .fields #[vS "pairs_of" 795, vS "pairs_of" 796, vS "/claim/cut.py" 797, .int 338 0, .int 1 0, .int 0 0, .int 0 0, .int 3 0, .ref 431, .bool true, .int 181 0, .ref 432, .none, .ref 433, .ref 434, .ref 435, .int 803 0, .int 338 0, vS "/claim/cut.py" 804], #[]⟩
noncomputable abbrev o448 : Obj := ⟨.type "function", none, .func ⟨Str.ofString "pairs_of", Str.ofString "pairs_of", pa50, .stmts bo50, sc50, 3, [], .none, .none, .none, vS "octetmint.iset" 789, none, .ref 436, .none, 0⟩, #[]⟩
noncomputable abbrev o451 : Obj := ⟨.type "tuple", none, .seq #[vS "name" 809, vS "others" 810, vS "conditions" 811, vS "stem" 812] 0, #[]⟩
noncomputable abbrev o453 : Obj := ⟨.none, none, .func ⟨Str.ofString "canonical", Str.ofString "canonical", pa51, .stmts bo51, sc51, 0, [], .none, .none, .none, .none, none, .none, .none, 0⟩, #[]⟩
noncomputable abbrev o454 : Obj := ⟨.type "code", none, .fields #[vS "canonical" 806, vS "canonical" 807, vS "/claim/cut.py" 808, .int 344 0, .int 1 0, .int 0 0, .int 0 0, .int 3 0, .ref 438, .bool true, .int 181 0, .ref 439, .none, .ref 440, .ref 441, .ref 442, .int 813 0, .int 344 0, vS "/claim/cut.py" 814], #[]⟩
noncomputable abbrev o455 : Obj := ⟨.type "function", none, .func ⟨Str.ofString "canonical", Str.ofString "canonical", pa51, .stmts bo51, sc51, 3, [], .none, .none, .none, vS "octetmint.iset" 789, none, .ref 443, .none, 0⟩, #[]⟩
noncomputable abbrev o456 (P : Params) : Obj := ⟨.type "dict", none, (.dict #[dE P "__name__" 165 (vS "octetmint.machine" 816), dE P "__doc__" 166 .none, dE P "__package__" 167 .none, dE P "__loader__" 168 (.builtin "__main__.__loader__#opaque"), dE P "__spec__" 169 .none, dE P "__annotations__" 170 (.ref 6), dE P "__builtins__" 171 (.ref 4), dE P "__file__" 173 (vS "/claim/cut.py" 172), dE P "__cached__" 174 .none, dE P "_wall" 193 (.ref 21), dE P "MintError" 233 (.ref 46), dE P "OperandError" 249 (.ref 59), dE P "MachineError" 265 (.ref 71), dE P "mask" 272 (.ref 80), dE P "wrap" 280 (.ref 87), dE P "signed" 289 (.ref 94), dE P "extended" 298 (.ref 101), dE P "bit" 306 (.ref 108), dE P "ones" 316 (.ref 115), dE P "parity" 323 (.ref 122), dE P "CONDITIONS" 327 (vS "o no b ae e ne be a s ns p np l ge le g" 326), dE P "condition_names" 333 (.ref 129), dE P "CF" 337 (.int 0 336), dE P "PF" 339 (.int 2 338), dE P "AF" 341 (.int 4 340), dE P "ZF" 343 (.int 6 342), dE P "SF" 345 (.int 7 344), dE P "DF" 347 (.int 10 346), dE P "OF" 349 (.int 11 348), dE P "FLAG_NAMES" 351 (vS "cf pf af zf sf of df" 350), dE P "Flags" 451 (.ref 202), dE P "condition_number" 458 (.ref 213), dE P "holds_number" 468 (.ref 220), dE P "holds" 476 (.ref 227), dE P "szp" 486 (.ref 234), dE P "add_flags" 501 (.ref 241), dE P "sub_flags" 516 (.ref 248), dE P "logic_flags" 525 (.ref 255), dE P "inc_flags" 536 (.ref 262), dE P "dec_flags" 547 (.ref 269), dE P "neg_flags" 556 (.ref 276), dE P "condition_of" 566 (.ref 283), dE P "NAMES_8" 570 (vS "al cl dl bl spl bpl sil dil" 569), dE P "NAMES_16" 572 (vS "ax cx dx bx sp bp si di" 571), dE P "NAMES_32" 574 (vS "eax ecx edx ebx esp ebp esi edi" 573), dE P "NAMES_64" 576 (vS "rax rcx rdx rbx rsp rbp rsi rdi" 575), dE P "HIGH_NAMES" 578 (vS "ah ch dh bh" 577), dE P "Register" 648 (.ref 335), dE P "early_names" 655 (.ref 346), dE P "late_ending" 662 (.ref 353), dE P "gpr" 671 (.ref 360), dE P "high" 678 (.ref 367), dE P "AH_NUMBER" 682 (.int 4 681), dE P "combined" 693 (.ref 374), dE P "two_deed" 707 (.ref 381), dE P "one_deed" 719 (.ref 388), dE P "xadd_deed" 733 (.ref 395), dE P "cmpxchg_deed" 748 (.ref 402), dE P "flag_deed" 757 (.ref 409), dE P "set_deed" 766 (.ref 416), dE P "cmov_deed" 779 (.ref 423), dE P "arith_deed" 788 (.ref 430), dE P "ALIASES" 792 (vS "c:b nae:b nb:ae nc:ae z:e nz:ne na:be nbe:a pe:p po:np nge:l nl:ge ng:le nle:g" 791), dE P "OTHER_NAMES" 794 (vS "sal:shl loopz:loope loopnz:loopne repe:rep repz:rep repnz:repne" 793), dE P "pairs_of" 805 (.ref 437), dE P "canonical" 815 (.ref 444), dE P "STACK" 819 (.int 4 818), dE P "Memory" 940 (.ref 534)] 68), #[]⟩
noncomputable abbrev o457 : Obj := ⟨.none, none, .fields #[.int 1 0, .int 0 0, .ref 20, .int 5 0, .int 0 0, .ref 27, .int 16 0, .int 0 0, .ref 55, .int 18 0, .int 0 0, .ref 67, .int 20 0, .int 0 0, .ref 79, .int 22 0, .int 0 0, .ref 86, .int 24 0, .int 0 0, .ref 93, .int 29 0, .int 0 0, .ref 100, .int 31 0, .int 0 0, .ref 107, .int 33 0, .int 0 0, .ref 114, .int 40 0, .int 0 0, .ref 121, .int 44 0, .int 0 0, .ref 128, .int 55 0, .int 0 0, .ref 135, .int 108 0, .int 0 0, .ref 212, .int 112 0, .int 0 0, .ref 219, .int 131 0, .int 0 0, .ref 226, .int 133 0, .int 0 0, .ref 233, .int 139 0, .int 0 0, .ref 240, .int 147 0, .int 0 0, .ref 247, .int 155 0, .int 0 0, .ref 254, .int 160 0, .int 0 0, .ref 261, .int 165 0, .int 0 0, .ref 268, .int 170 0, .int 0 0, .ref 275, .int 173 0, .int 0 0, .ref 282, .int 184 0, .int 0 0, .ref 289, .int 206 0, .int 0 0, .ref 345, .int 216 0, .int 0 0, .ref 352, .int 224 0, .int 0 0, .ref 359, .int 231 0, .int 0 0, .ref 366, .int 237 0, .int 0 0, .ref 373, .int 251 0, .int 0 0, .ref 380, .int 258 0, .int 0 0, .ref 387, .int 271 0, .int 0 0, .ref 394, .int 282 0, .int 0 0, .ref 401, .int 292 0, .int 0 0, .ref 408, .int 308 0, .int 0 0, .ref 415, .int 311 0, .int 0 0, .ref 422, .int 316 0, .int 0 0, .ref 429, .int 338 0, .int 0 0, .ref 436, .int 344 0, .int 0 0, .ref 443, .int 355 0, .int 0 0, .ref 450], #[]⟩
noncomputable abbrev o460 (P : Params) : Obj := ⟨.type "dict", none, .dict #[dE P "__module__" 827 (vS "octetmint.machine" 816), dE P "__qualname__" 829 (vS "Memory" 828), dE P "__firstlineno__" 831 (.int 355 830), dE P "__init__" 838 (.ref 458), dE P "octet" 846 (.ref 465), dE P "set_octet" 855 (.ref 472), dE P "read" 866 (.ref 479), dE P "write" 877 (.ref 486), dE P "load" 888 (.ref 493), dE P "octets" 894 (.ref 498), dE P "written" 900 (.ref 503), dE P "spans" 907 (.ref 510), dE P "find" 917 (.ref 517), dE P "copy" 924 (.ref 524), dE P "told" 931 (.ref 531), dE P "__static_attributes__" 933 (.ref 532)] 16, #[]⟩
noncomputable abbrev o462 : Obj := ⟨.none, none, .fields #[.int 357 0, .int 4 0, .ref 457, .int 360 0, .int 4 0, .ref 464, .int 363 0, .int 4 0, .ref 471, .int 366 0, .int 4 0, .ref 478, .int 372 0, .int 4 0, .ref 485, .int 376 0, .int 4 0, .ref 492, .int 380 0, .int 4 0, .ref 497, .int 383 0, .int 4 0, .ref 502, .int 386 0, .int 4 0, .ref 509, .int 389 0, .int 4 0, .ref 516, .int 392 0, .int 4 0, .ref 523, .int 395 0, .int 4 0, .ref 530], #[]⟩
noncomputable abbrev o463 : Obj := ⟨.type "code", none, .fields #[vS "Memory" 822, vS "Memory" 823, vS "/claim/cut.py" 824, .int 355 0, .int 0 0, .int 0 0, .int 0 0, .int 0 0, .ref 448, .bool false, .int 181 0, .ref 449, .none, .none, .none, .none, .int 825 0, .int 355 0, vS "/claim/cut.py" 826], #[]⟩
noncomputable abbrev o464 : Obj := ⟨.type "frame", none, .plain, #[some (.ref 450), some (.ref 3), some (.ref 447), none, some (vS "octetmint.machine" 816), none, some (.ref 0)]⟩
noncomputable abbrev o467 : Obj := ⟨.type "tuple", none, .seq #[vS "self" 835] 0, #[]⟩
noncomputable abbrev o469 : Obj := ⟨.none, none, .func ⟨Str.ofString "__init__", Str.ofString "Memory.__init__", pa52, .stmts bo52, sc52, 0, [], .none, .none, .none, .none, none, .none, .none, 0⟩, #[]⟩
noncomputable abbrev o470 : Obj := ⟨.type "code", none, .fields #[vS "__init__" 832, vS "Memory.__init__" 833, vS "/claim/cut.py" 834, .int 357 0, .int 1 0, .int 0 0, .int 0 0, .int 3 0, .ref 452, .bool true, .int 181 0, .ref 453, .none, .ref 454, .ref 455, .ref 456, .int 836 0, .int 357 0, vS "/claim/cut.py" 837], #[]⟩
noncomputable abbrev o471 : Obj := ⟨.type "function", none, .func ⟨Str.ofString "__init__", Str.ofString "Memory.__init__", pa52, .stmts bo52, sc52, 3, [], .none, .none, .none, vS "octetmint.machine" 816, none, .ref 457, .none, 0⟩, #[]⟩
noncomputable abbrev o474 : Obj := ⟨.type "tuple", none, .seq #[vS "self" 842, vS "place" 843] 0, #[]⟩
noncomputable abbrev o476 : Obj := ⟨.none, none, .func ⟨Str.ofString "octet", Str.ofString "Memory.octet", pa53, .stmts bo53, sc53, 0, [], .none, .none, .none, .none, none, .none, .none, 0⟩, #[]⟩
noncomputable abbrev o477 : Obj := ⟨.type "code", none, .fields #[vS "octet" 839, vS "Memory.octet" 840, vS "/claim/cut.py" 841, .int 360 0, .int 2 0, .int 0 0, .int 0 0, .int 3 0, .ref 459, .bool true, .int 181 0, .ref 460, .none, .ref 461, .ref 462, .ref 463, .int 844 0, .int 360 0, vS "/claim/cut.py" 845], #[]⟩
noncomputable abbrev o478 : Obj := ⟨.type "function", none, .func ⟨Str.ofString "octet", Str.ofString "Memory.octet", pa53, .stmts bo53, sc53, 3, [], .none, .none, .none, vS "octetmint.machine" 816, none, .ref 464, .none, 0⟩, #[]⟩
noncomputable abbrev o481 : Obj := ⟨.type "tuple", none, .seq #[vS "self" 850, vS "place" 851, vS "octet" 852] 0, #[]⟩
noncomputable abbrev o483 : Obj := ⟨.none, none, .func ⟨Str.ofString "set_octet", Str.ofString "Memory.set_octet", pa54, .stmts bo54, sc54, 0, [], .none, .none, .none, .none, none, .none, .none, 0⟩, #[]⟩
noncomputable abbrev o484 : Obj := ⟨.type "code", none, .fields #[vS "set_octet" 847, vS "Memory.set_octet" 848, vS "/claim/cut.py" 849, .int 363 0, .int 3 0, .int 0 0, .int 0 0, .int 3 0, .ref 466, .bool true, .int 181 0, .ref 467, .none, .ref 468, .ref 469, .ref 470, .int 853 0, .int 363 0, vS "/claim/cut.py" 854], #[]⟩
noncomputable abbrev o485 : Obj := ⟨.type "function", none, .func ⟨Str.ofString "set_octet", Str.ofString "Memory.set_octet", pa54, .stmts bo54, sc54, 3, [], .none, .none, .none, vS "octetmint.machine" 816, none, .ref 471, .none, 0⟩, #[]⟩
noncomputable abbrev o488 : Obj := ⟨.type "tuple", none, .seq #[vS "self" 859, vS "place" 860, vS "width" 861, vS "worth" 862, vS "at" 863] 0, #[]⟩
noncomputable abbrev o490 : Obj := ⟨.none, none, .func ⟨Str.ofString "read", Str.ofString "Memory.read", pa55, .stmts bo55, sc55, 0, [], .none, .none, .none, .none, none, .none, .none, 0⟩, #[]⟩
noncomputable abbrev o491 : Obj := ⟨.type "code", none, .fields #[vS "read" 856, vS "Memory.read" 857, vS "/claim/cut.py" 858, .int 366 0, .int 3 0, .int 0 0, .int 0 0, .int 3 0, .ref 473, .bool true, .int 181 0, .ref 474, .none, .ref 475, .ref 476, .ref 477, .int 864 0, .int 366 0, vS "/claim/cut.py" 865], #[]⟩
noncomputable abbrev o492 : Obj := ⟨.type "function", none, .func ⟨Str.ofString "read", Str.ofString "Memory.read", pa55, .stmts bo55, sc55, 3, [], .none, .none, .none, vS "octetmint.machine" 816, none, .ref 478, .none, 0⟩, #[]⟩
noncomputable abbrev o495 : Obj := ⟨.type "tuple", none, .seq #[vS "self" 870, vS "place" 871, vS "width" 872, vS "worth" 873, vS "at" 874] 0, #[]⟩
noncomputable abbrev o497 : Obj := ⟨.none, none, .func ⟨Str.ofString "write", Str.ofString "Memory.write", pa56, .stmts bo56, sc56, 0, [], .none, .none, .none, .none, none, .none, .none, 0⟩, #[]⟩
noncomputable abbrev o498 : Obj := ⟨.type "code", none, .fields #[vS "write" 867, vS "Memory.write" 868, vS "/claim/cut.py" 869, .int 372 0, .int 4 0, .int 0 0, .int 0 0, .int 3 0, .ref 480, .bool true, .int 181 0, .ref 481, .none, .ref 482, .ref 483, .ref 484, .int 875 0, .int 372 0, vS "/claim/cut.py" 876], #[]⟩
noncomputable abbrev o499 : Obj := ⟨.type "function", none, .func ⟨Str.ofString "write", Str.ofString "Memory.write", pa56, .stmts bo56, sc56, 3, [], .none, .none, .none, vS "octetmint.machine" 816, none, .ref 485, .none, 0⟩, #[]⟩
noncomputable abbrev o502 : Obj := ⟨.type "tuple", none, .seq #[vS "self" 881, vS "place" 882, vS "octets" 883, vS "at" 884, vS "octet" 885] 0, #[]⟩
noncomputable abbrev o504 : Obj := ⟨.none, none, .func ⟨Str.ofString "load", Str.ofString "Memory.load", pa57, .stmts bo57, sc57, 0, [], .none, .none, .none, .none, none, .none, .none, 0⟩, #[]⟩
noncomputable abbrev o505 : Obj := ⟨.type "code", none, .fields #[vS "load" 878, vS "Memory.load" 879, vS "/claim/cut.py" 880, .int 376 0, .int 3 0, .int 0 0, .int 0 0, .int 3 0, .ref 487, .bool true, .int 181 0, .ref 488, .none, .ref 489, .ref 490, .ref 491, .int 886 0, .int 376 0, vS "/claim/cut.py" 887], #[]⟩
noncomputable abbrev o506 : Obj := ⟨.type "function", none, .func ⟨Str.ofString "load", Str.ofString "Memory.load", pa57, .stmts bo57, sc57, 3, [], .none, .none, .none, vS "octetmint.machine" 816, none, .ref 492, .none, 0⟩, #[]⟩
noncomputable abbrev o509 : Obj := ⟨.none, none, .func ⟨Str.ofString "octets", Str.ofString "Memory.octets", pa58, .stmts bo58, sc58, 0, [], .none, .none, .none, .none, none, .none, .none, 0⟩, #[]⟩
noncomputable abbrev o510 : Obj := ⟨.type "code", none, .fields #[vS "octets" 889, vS "Memory.octets" 890, vS "/claim/cut.py" 891, .int 380 0, .int 3 0, .int 0 0, .int 0 0, .int 3 0, .ref 494, .bool true, .int 181 0, .ref 495, .none, .none, .none, .ref 496, .int 892 0, .int 380 0, vS "/claim/cut.py" 893], #[]⟩
noncomputable abbrev o511 : Obj := ⟨.type "function", none, .func ⟨Str.ofString "octets", Str.ofString "Memory.octets", pa58, .stmts bo58, sc58, 3, [], .none, .none, .none, vS "octetmint.machine" 816, none, .ref 497, .none, 0⟩, #[]⟩
noncomputable abbrev o514 : Obj := ⟨.none, none, .func ⟨Str.ofString "written", Str.ofString "Memory.written", pa59, .stmts bo59, sc59, 0, [], .none, .none, .none, .none, none, .none, .none, 0⟩, #[]⟩
noncomputable abbrev o515 : Obj := ⟨.type "code", none, .fields #[vS "written" 895, vS "Memory.written" 896, vS "/claim/cut.py" 897, .int 383 0, .int 1 0, .int 0 0, .int 0 0, .int 3 0, .ref 499, .bool true, .int 181 0, .ref 500, .none, .none, .none, .ref 501, .int 898 0, .int 383 0, vS "/claim/cut.py" 899], #[]⟩
noncomputable abbrev o516 : Obj := ⟨.type "function", none, .func ⟨Str.ofString "written", Str.ofString "Memory.written", pa59, .stmts bo59, sc59, 3, [], .none, .none, .none, vS "octetmint.machine" 816, none, .ref 502, .none, 0⟩, #[]⟩
noncomputable abbrev o519 : Obj := ⟨.type "tuple", none, .seq #[vS "self" 904] 0, #[]⟩
noncomputable abbrev o521 : Obj := ⟨.none, none, .func ⟨Str.ofString "spans", Str.ofString "Memory.spans", pa60, .stmts bo60, sc60, 0, [], .none, .none, .none, .none, none, .none, .none, 0⟩, #[]⟩
noncomputable abbrev o522 : Obj := ⟨.type "code", none, .fields #[vS "spans" 901, vS "Memory.spans" 902, vS "/claim/cut.py" 903, .int 386 0, .int 1 0, .int 0 0, .int 0 0, .int 3 0, .ref 504, .bool true, .int 181 0, .ref 505, .none, .ref 506, .ref 507, .ref 508, .int 905 0, .int 386 0, vS "/claim/cut.py" 906], #[]⟩
noncomputable abbrev o523 : Obj := ⟨.type "function", none, .func ⟨Str.ofString "spans", Str.ofString "Memory.spans", pa60, .stmts bo60, sc60, 3, [], .none, .none, .none, vS "octetmint.machine" 816, none, .ref 509, .none, 0⟩, #[]⟩
noncomputable abbrev o526 : Obj := ⟨.type "tuple", none, .seq #[vS "self" 911, vS "octets" 912, vS "begin" 913, vS "end" 914] 0, #[]⟩
noncomputable abbrev o528 : Obj := ⟨.none, none, .func ⟨Str.ofString "find", Str.ofString "Memory.find", pa61, .stmts bo61, sc61, 0, [], .none, .none, .none, .none, none, .none, .none, 0⟩, #[]⟩
noncomputable abbrev o529 : Obj := ⟨.type "code", none, .fields #[vS "find" 908, vS "Memory.find" 909, vS "/claim/cut.py" 910, .int 389 0, .int 4 0, .int 0 0, .int 0 0, .int 3 0, .ref 511, .bool true, .int 181 0, .ref 512, .none, .ref 513, .ref 514, .ref 515, .int 915 0, .int 389 0, vS "/claim/cut.py" 916], #[]⟩
noncomputable abbrev o530 : Obj := ⟨.type "function", none, .func ⟨Str.ofString "find", Str.ofString "Memory.find", pa61, .stmts bo61, sc61, 3, [], .none, .none, .none, vS "octetmint.machine" 816, none, .ref 516, .none, 0⟩, #[]⟩
noncomputable abbrev o533 : Obj := ⟨.type "tuple", none, .seq #[vS "self" 921] 0, #[]⟩
noncomputable abbrev o535 : Obj := ⟨.none, none, .func ⟨Str.ofString "copy", Str.ofString "Memory.copy", pa62, .stmts bo62, sc62, 0, [], .none, .none, .none, .none, none, .none, .none, 0⟩, #[]⟩
noncomputable abbrev o536 : Obj := ⟨.type "code", none, .fields #[vS "copy" 918, vS "Memory.copy" 919, vS "/claim/cut.py" 920, .int 392 0, .int 1 0, .int 0 0, .int 0 0, .int 3 0, .ref 518, .bool true, .int 181 0, .ref 519, .none, .ref 520, .ref 521, .ref 522, .int 922 0, .int 392 0, vS "/claim/cut.py" 923], #[]⟩
noncomputable abbrev o537 : Obj := ⟨.type "function", none, .func ⟨Str.ofString "copy", Str.ofString "Memory.copy", pa62, .stmts bo62, sc62, 3, [], .none, .none, .none, vS "octetmint.machine" 816, none, .ref 523, .none, 0⟩, #[]⟩
noncomputable abbrev o540 : Obj := ⟨.type "tuple", none, .seq #[vS "self" 928] 0, #[]⟩
noncomputable abbrev o542 : Obj := ⟨.none, none, .func ⟨Str.ofString "told", Str.ofString "Memory.told", pa63, .stmts bo63, sc63, 0, [], .none, .none, .none, .none, none, .none, .none, 0⟩, #[]⟩
noncomputable abbrev o543 : Obj := ⟨.type "code", none, .fields #[vS "told" 925, vS "Memory.told" 926, vS "/claim/cut.py" 927, .int 395 0, .int 1 0, .int 0 0, .int 0 0, .int 3 0, .ref 525, .bool true, .int 181 0, .ref 526, .none, .ref 527, .ref 528, .ref 529, .int 929 0, .int 395 0, vS "/claim/cut.py" 930], #[]⟩
noncomputable abbrev o544 : Obj := ⟨.type "function", none, .func ⟨Str.ofString "told", Str.ofString "Memory.told", pa63, .stmts bo63, sc63, 3, [], .none, .none, .none, vS "octetmint.machine" 816, none, .ref 530, .none, 0⟩, #[]⟩
noncomputable abbrev o545 : Obj := ⟨.type "tuple", none, .seq #[vS "held" 932] 0, #[]⟩
noncomputable abbrev o546 (P : Params) : Obj := ⟨.type "dict", none, .dict #[dE P "__module__" 827 (vS "octetmint.machine" 816), dE P "__firstlineno__" 831 (.int 355 830), dE P "__init__" 838 (.ref 458), dE P "octet" 846 (.ref 465), dE P "set_octet" 855 (.ref 472), dE P "read" 866 (.ref 479), dE P "write" 877 (.ref 486), dE P "load" 888 (.ref 493), dE P "octets" 894 (.ref 498), dE P "written" 900 (.ref 503), dE P "spans" 907 (.ref 510), dE P "find" 917 (.ref 517), dE P "copy" 924 (.ref 524), dE P "told" 931 (.ref 531), dE P "__static_attributes__" 933 (.ref 532), dE P "__dict__" 935 (.ref 535), dE P "__weakref__" 937 (.ref 536), dE P "__doc__" 938 .none] 4, #[]⟩
noncomputable abbrev o547 : Obj := ⟨.type "type", none, .cls ⟨Str.ofString "Memory", [.type "object"], [.ref 534, .type "object"], 533, Str.ofString "Memory", true, [], [], false, none, false⟩, #[none, none, some (vS "Memory" 820), some (vS "Memory" 828), some (.builtin "object.__new__"), some (.bool true)]⟩
noncomputable abbrev o548 : Obj := ⟨.type "getset_descriptor", none, .fields #[vS "__dict__" 934, .ref 534, .builtin "function.__dict__", .builtin "function.__dict__#set"], #[]⟩
noncomputable abbrev o549 : Obj := ⟨.type "getset_descriptor", none, .fields #[vS "__weakref__" 936, .ref 534, .builtin "ExceptionGroup.__weakref__", .none], #[]⟩
noncomputable abbrev o550 : Obj := ⟨.type "super", none, .fields #[.ref 534, .ref 534, .ref 534], #[]⟩
noncomputable abbrev o551 : Obj := ⟨.type "builtin_function_or_method", none, .fields #[.builtin "object.__init_subclass__", .ref 534], #[]⟩
noncomputable abbrev o552 (P : Params) : Obj := ⟨.type "dict", none, (.dict #[dE P "__name__" 165 (vS "octetmint.machine" 816), dE P "__doc__" 166 .none, dE P "__package__" 167 .none, dE P "__loader__" 168 (.builtin "__main__.__loader__#opaque"), dE P "__spec__" 169 .none, dE P "__annotations__" 170 (.ref 6), dE P "__builtins__" 171 (.ref 4), dE P "__file__" 173 (vS "/claim/cut.py" 172), dE P "__cached__" 174 .none, dE P "_wall" 193 (.ref 21), dE P "MintError" 233 (.ref 46), dE P "OperandError" 249 (.ref 59), dE P "MachineError" 265 (.ref 71), dE P "mask" 272 (.ref 80), dE P "wrap" 280 (.ref 87), dE P "signed" 289 (.ref 94), dE P "extended" 298 (.ref 101), dE P "bit" 306 (.ref 108), dE P "ones" 316 (.ref 115), dE P "parity" 323 (.ref 122), dE P "CONDITIONS" 327 (vS "o no b ae e ne be a s ns p np l ge le g" 326), dE P "condition_names" 333 (.ref 129), dE P "CF" 337 (.int 0 336), dE P "PF" 339 (.int 2 338), dE P "AF" 341 (.int 4 340), dE P "ZF" 343 (.int 6 342), dE P "SF" 345 (.int 7 344), dE P "DF" 347 (.int 10 346), dE P "OF" 349 (.int 11 348), dE P "FLAG_NAMES" 351 (vS "cf pf af zf sf of df" 350), dE P "Flags" 451 (.ref 202), dE P "condition_number" 458 (.ref 213), dE P "holds_number" 468 (.ref 220), dE P "holds" 476 (.ref 227), dE P "szp" 486 (.ref 234), dE P "add_flags" 501 (.ref 241), dE P "sub_flags" 516 (.ref 248), dE P "logic_flags" 525 (.ref 255), dE P "inc_flags" 536 (.ref 262), dE P "dec_flags" 547 (.ref 269), dE P "neg_flags" 556 (.ref 276), dE P "condition_of" 566 (.ref 283), dE P "NAMES_8" 570 (vS "al cl dl bl spl bpl sil dil" 569), dE P "NAMES_16" 572 (vS "ax cx dx bx sp bp si di" 571), dE P "NAMES_32" 574 (vS "eax ecx edx ebx esp ebp esi edi" 573), dE P "NAMES_64" 576 (vS "rax rcx rdx rbx rsp rbp rsi rdi" 575), dE P "HIGH_NAMES" 578 (vS "ah ch dh bh" 577), dE P "Register" 648 (.ref 335), dE P "early_names" 655 (.ref 346), dE P "late_ending" 662 (.ref 353), dE P "gpr" 671 (.ref 360), dE P "high" 678 (.ref 367), dE P "AH_NUMBER" 682 (.int 4 681), dE P "combined" 693 (.ref 374), dE P "two_deed" 707 (.ref 381), dE P "one_deed" 719 (.ref 388), dE P "xadd_deed" 733 (.ref 395), dE P "cmpxchg_deed" 748 (.ref 402), dE P "flag_deed" 757 (.ref 409), dE P "set_deed" 766 (.ref 416), dE P "cmov_deed" 779 (.ref 423), dE P "arith_deed" 788 (.ref 430), dE P "ALIASES" 792 (vS "c:b nae:b nb:ae nc:ae z:e nz:ne na:be nbe:a pe:p po:np nge:l nl:ge ng:le nle:g" 791), dE P "OTHER_NAMES" 794 (vS "sal:shl loopz:loope loopnz:loopne repe:rep repz:rep repnz:repne" 793), dE P "pairs_of" 805 (.ref 437), dE P "canonical" 815 (.ref 444), dE P "STACK" 819 (.int 4 818), dE P "Memory" 940 (.ref 534), dE P "joined" 949 (.ref 545)] 69), #[]⟩
noncomputable abbrev o553 : Obj := ⟨.none, none, .fields #[.int 1 0, .int 0 0, .ref 20, .int 5 0, .int 0 0, .ref 27, .int 16 0, .int 0 0, .ref 55, .int 18 0, .int 0 0, .ref 67, .int 20 0, .int 0 0, .ref 79, .int 22 0, .int 0 0, .ref 86, .int 24 0, .int 0 0, .ref 93, .int 29 0, .int 0 0, .ref 100, .int 31 0, .int 0 0, .ref 107, .int 33 0, .int 0 0, .ref 114, .int 40 0, .int 0 0, .ref 121, .int 44 0, .int 0 0, .ref 128, .int 55 0, .int 0 0, .ref 135, .int 108 0, .int 0 0, .ref 212, .int 112 0, .int 0 0, .ref 219, .int 131 0, .int 0 0, .ref 226, .int 133 0, .int 0 0, .ref 233, .int 139 0, .int 0 0, .ref 240, .int 147 0, .int 0 0, .ref 247, .int 155 0, .int 0 0, .ref 254, .int 160 0, .int 0 0, .ref 261, .int 165 0, .int 0 0, .ref 268, .int 170 0, .int 0 0, .ref 275, .int 173 0, .int 0 0, .ref 282, .int 184 0, .int 0 0, .ref 289, .int 206 0, .int 0 0, .ref 345, .int 216 0, .int 0 0, .ref 352, .int 224 0, .int 0 0, .ref 359, .int 231 0, .int 0 0, .ref 366, .int 237 0, .int 0 0, .ref 373, .int 251 0, .int 0 0, .ref 380, .int 258 0, .int 0 0, .ref 387, .int 271 0, .int 0 0, .ref 394, .int 282 0, .int 0 0, .ref 401, .int 292 0, .int 0 0, .ref 408, .int 308 0, .int 0 0, .ref 415, .int 311 0, .int 0 0, .ref 422, .int 316 0, .int 0 0, .ref 429, .int 338 0, .int 0 0, .ref 436, .int 344 0, .int 0 0, .ref 443, .int 355 0, .int 0 0, .ref 450, .int 397 0, .int 0 0, .ref 544], #[]⟩
noncomputable abbrev o556 : Obj := ⟨.type "tuple", none, .seq #[vS "old" 944, vS "worth" 945, vS "size" 946] 0, #[]⟩
noncomputable abbrev o558 : Obj := ⟨.none, none, .func ⟨Str.ofString "joined", Str.ofString "joined", pa64, .stmts bo64, sc64, 0, [], .none, .none, .none, .none, none, .none, .none, 0⟩, #[]⟩
noncomputable abbrev o559 : Obj := ⟨.type "code", none, .fields #[vS "joined" 941, vS "joined" 942, vS "/claim/cut.py" 943, .int 397 0, .int 3 0, .int 0 0, .int 0 0, .int 3 0, .ref 539, .bool true, .int 181 0, .ref 540, .none, .ref 541, .ref 542, .ref 543, .int 947 0, .int 397 0, vS "/claim/cut.py" 948], #[]⟩
noncomputable abbrev o560 : Obj := ⟨.type "function", none, .func ⟨Str.ofString "joined", Str.ofString "joined", pa64, .stmts bo64, sc64, 3, [], .none, .none, .none, vS "octetmint.machine" 816, none, .ref 544, .none, 0⟩, #[]⟩
noncomputable abbrev o561 (P : Params) : Obj := ⟨.type "dict", none, (.dict #[dE P "__name__" 165 (vS "octetmint.machine" 816), dE P "__doc__" 166 .none, dE P "__package__" 167 .none, dE P "__loader__" 168 (.builtin "__main__.__loader__#opaque"), dE P "__spec__" 169 .none, dE P "__annotations__" 170 (.ref 6), dE P "__builtins__" 171 (.ref 4), dE P "__file__" 173 (vS "/claim/cut.py" 172), dE P "__cached__" 174 .none, dE P "_wall" 193 (.ref 21), dE P "MintError" 233 (.ref 46), dE P "OperandError" 249 (.ref 59), dE P "MachineError" 265 (.ref 71), dE P "mask" 272 (.ref 80), dE P "wrap" 280 (.ref 87), dE P "signed" 289 (.ref 94), dE P "extended" 298 (.ref 101), dE P "bit" 306 (.ref 108), dE P "ones" 316 (.ref 115), dE P "parity" 323 (.ref 122), dE P "CONDITIONS" 327 (vS "o no b ae e ne be a s ns p np l ge le g" 326), dE P "condition_names" 333 (.ref 129), dE P "CF" 337 (.int 0 336), dE P "PF" 339 (.int 2 338), dE P "AF" 341 (.int 4 340), dE P "ZF" 343 (.int 6 342), dE P "SF" 345 (.int 7 344), dE P "DF" 347 (.int 10 346), dE P "OF" 349 (.int 11 348), dE P "FLAG_NAMES" 351 (vS "cf pf af zf sf of df" 350), dE P "Flags" 451 (.ref 202), dE P "condition_number" 458 (.ref 213), dE P "holds_number" 468 (.ref 220), dE P "holds" 476 (.ref 227), dE P "szp" 486 (.ref 234), dE P "add_flags" 501 (.ref 241), dE P "sub_flags" 516 (.ref 248), dE P "logic_flags" 525 (.ref 255), dE P "inc_flags" 536 (.ref 262), dE P "dec_flags" 547 (.ref 269), dE P "neg_flags" 556 (.ref 276), dE P "condition_of" 566 (.ref 283), dE P "NAMES_8" 570 (vS "al cl dl bl spl bpl sil dil" 569), dE P "NAMES_16" 572 (vS "ax cx dx bx sp bp si di" 571), dE P "NAMES_32" 574 (vS "eax ecx edx ebx esp ebp esi edi" 573), dE P "NAMES_64" 576 (vS "rax rcx rdx rbx rsp rbp rsi rdi" 575), dE P "HIGH_NAMES" 578 (vS "ah ch dh bh" 577), dE P "Register" 648 (.ref 335), dE P "early_names" 655 (.ref 346), dE P "late_ending" 662 (.ref 353), dE P "gpr" 671 (.ref 360), dE P "high" 678 (.ref 367), dE P "AH_NUMBER" 682 (.int 4 681), dE P "combined" 693 (.ref 374), dE P "two_deed" 707 (.ref 381), dE P "one_deed" 719 (.ref 388), dE P "xadd_deed" 733 (.ref 395), dE P "cmpxchg_deed" 748 (.ref 402), dE P "flag_deed" 757 (.ref 409), dE P "set_deed" 766 (.ref 416), dE P "cmov_deed" 779 (.ref 423), dE P "arith_deed" 788 (.ref 430), dE P "ALIASES" 792 (vS "c:b nae:b nb:ae nc:ae z:e nz:ne na:be nbe:a pe:p po:np nge:l nl:ge ng:le nle:g" 791), dE P "OTHER_NAMES" 794 (vS "sal:shl loopz:loope loopnz:loopne repe:rep repz:rep repnz:repne" 793), dE P "pairs_of" 805 (.ref 437), dE P "canonical" 815 (.ref 444), dE P "STACK" 819 (.int 4 818), dE P "Memory" 940 (.ref 534), dE P "joined" 949 (.ref 545), dE P "State" 1101 (.ref 651)] 70), #[]⟩
noncomputable abbrev o562 : Obj := ⟨.none, none, .fields #[.int 1 0, .int 0 0, .ref 20, .int 5 0, .int 0 0, .ref 27, .int 16 0, .int 0 0, .ref 55, .int 18 0, .int 0 0, .ref 67, .int 20 0, .int 0 0, .ref 79, .int 22 0, .int 0 0, .ref 86, .int 24 0, .int 0 0, .ref 93, .int 29 0, .int 0 0, .ref 100, .int 31 0, .int 0 0, .ref 107, .int 33 0, .int 0 0, .ref 114, .int 40 0, .int 0 0, .ref 121, .int 44 0, .int 0 0, .ref 128, .int 55 0, .int 0 0, .ref 135, .int 108 0, .int 0 0, .ref 212, .int 112 0, .int 0 0, .ref 219, .int 131 0, .int 0 0, .ref 226, .int 133 0, .int 0 0, .ref 233, .int 139 0, .int 0 0, .ref 240, .int 147 0, .int 0 0, .ref 247, .int 155 0, .int 0 0, .ref 254, .int 160 0, .int 0 0, .ref 261, .int 165 0, .int 0 0, .ref 268, .int 170 0, .int 0 0, .ref 275, .int 173 0, .int 0 0, .ref 282, .int 184 0, .int 0 0, .ref 289, .int 206 0, .int 0 0, .ref 345, .int 216 0, .int 0 0, .ref 352, .int 224 0, .int 0 0, .ref 359, .int 231 0, .int 0 0, .ref 366, .int 237 0, .int 0 0, .ref 373, .int 251 0, .int 0 0, .ref 380, .int 258 0, .int 0 0, .ref 387, .int 271 0, .int 0 0, .ref 394, .int 282 0, .int 0 0, .ref 401, .int 292 0, .int 0 0, .ref 408, .int 308 0, .int 0 0, .ref 415, .int 311 0, .int 0 0, .ref 422, .int 316 0, .int 0 0, .ref 429, .int 338 0, .int 0 0, .ref 436, .int 344 0, .int 0 0, .ref 443, .int 355 0, .int 0 0, .ref 450, .int 397 0, .int 0 0, .ref 544, .int 401 0, .int 0 0, .ref 551], #[]⟩
noncomputable abbrev o565 (P : Params) : Obj := ⟨.type "dict", none, .dict #[dE P "__module__" 957 (vS "octetmint.machine" 816), dE P "__qualname__" 959 (vS "State" 958), dE P "__firstlineno__" 961 (.int 401 960), dE P "__init__" 969 (.ref 559), dE P "get" 977 (.ref 566), dE P "put" 987 (.ref 573), dE P "put_low" 998 (.ref 580), dE P "registers" 1004 (.ref 585), dE P "offset" 1013 (.ref 592), dE P "place" 1022 (.ref 599), dE P "size_of" 1032 (.ref 606), dE P "read" 1041 (.ref 613), dE P "write" 1051 (.ref 620), dE P "push" 1060 (.ref 627), dE P "pop" 1069 (.ref 634), dE P "told" 1077 (.ref 641), dE P "copy" 1084 (.ref 648), dE P "__static_attributes__" 1094 (.ref 649)] 18, #[]⟩
noncomputable abbrev o567 : Obj := ⟨.none, none, .fields #[.int 403 0, .int 4 0, .ref 558, .int 414 0, .int 4 0, .ref 565, .int 425 0, .int 4 0, .ref 572, .int 437 0, .int 4 0, .ref 579, .int 444 0, .int 4 0, .ref 584, .int 447 0, .int 4 0, .ref 591, .int 455 0, .int 4 0, .ref 598, .int 459 0, .int 4 0, .ref 605, .int 467 0, .int 4 0, .ref 612, .int 474 0, .int 4 0, .ref 619, .int 482 0, .int 4 0, .ref 626, .int 486 0, .int 4 0, .ref 633, .int 491 0, .int 4 0, .ref 640, .int 495 0, .int 4 0, .ref 647], #[]⟩
noncomputable abbrev o568 : Obj := ⟨.type "code", none, .fields #[vS "State" 952, vS "State" 953, vS "/claim/cut.py" 954, .int 401 0, .int 0 0, .int 0 0, .int 0 0, .int 0 0, .ref 549, .bool false, .int 181 0, .ref 550, .none, .none, .none, .none, .int 955 0, .int 401 0, vS "/claim/cut.py" 956], #[]⟩
noncomputable abbrev o569 : Obj := ⟨.type "frame", none, .plain, #[some (.ref 551), some (.ref 3), some (.ref 548), none, some (vS "octetmint.machine" 816), none, some (.ref 0)]⟩
noncomputable abbrev o572 : Obj := ⟨.type "tuple", none, .seq #[vS "self" 965, vS "iset" 966] 0, #[]⟩
noncomputable abbrev o574 : Obj := ⟨.none, none, .func ⟨Str.ofString "__init__", Str.ofString "State.__init__", pa65, .stmts bo65, sc65, 0, [], .none, .none, .none, .none, none, .none, .none, 0⟩, #[]⟩
noncomputable abbrev o575 : Obj := ⟨.type "code", none, .fields #[vS "__init__" 962, vS "State.__init__" 963, vS "/claim/cut.py" 964, .int 403 0, .int 2 0, .int 0 0, .int 0 0, .int 3 0, .ref 553, .bool true, .int 181 0, .ref 554, .none, .ref 555, .ref 556, .ref 557, .int 967 0, .int 403 0, vS "/claim/cut.py" 968], #[]⟩
noncomputable abbrev o576 : Obj := ⟨.type "function", none, .func ⟨Str.ofString "__init__", Str.ofString "State.__init__", pa65, .stmts bo65, sc65, 3, [], .none, .none, .none, vS "octetmint.machine" 816, none, .ref 558, .none, 0⟩, #[]⟩
noncomputable abbrev o579 : Obj := ⟨.type "tuple", none, .seq #[vS "self" 973, vS "register" 974] 0, #[]⟩
noncomputable abbrev o581 : Obj := ⟨.none, none, .func ⟨Str.ofString "get", Str.ofString "State.get", pa66, .stmts bo66, sc66, 0, [], .none, .none, .none, .none, none, .none, .none, 0⟩, #[]⟩
noncomputable abbrev o582 : Obj := ⟨.type "code", none, .fields #[vS "get" 970, vS "State.get" 971, vS "/claim/cut.py" 972, .int 414 0, .int 2 0, .int 0 0, .int 0 0, .int 3 0, .ref 560, .bool true, .int 181 0, .ref 561, .none, .ref 562, .ref 563, .ref 564, .int 975 0, .int 414 0, vS "/claim/cut.py" 976], #[]⟩
noncomputable abbrev o583 : Obj := ⟨.type "function", none, .func ⟨Str.ofString "get", Str.ofString "State.get", pa66, .stmts bo66, sc66, 3, [], .none, .none, .none, vS "octetmint.machine" 816, none, .ref 565, .none, 0⟩, #[]⟩
noncomputable abbrev o586 : Obj := ⟨.type "tuple", none, .seq #[vS "self" 981, vS "register" 982, vS "worth" 983, vS "old" 984] 0, #[]⟩
noncomputable abbrev o588 : Obj := ⟨.none, none, .func ⟨Str.ofString "put", Str.ofString "State.put", pa67, .stmts bo67, sc67, 0, [], .none, .none, .none, .none, none, .none, .none, 0⟩, #[]⟩
noncomputable abbrev o589 : Obj := ⟨.type "code", none, .fields #[vS "put" 978, vS "State.put" 979, vS "/claim/cut.py" 980, .int 425 0, .int 3 0, .int 0 0, .int 0 0, .int 3 0, .ref 567, .bool true, .int 181 0, .ref 568, .none, .ref 569, .ref 570, .ref 571, .int 985 0, .int 425 0, vS "/claim/cut.py" 986], #[]⟩
noncomputable abbrev o590 : Obj := ⟨.type "function", none, .func ⟨Str.ofString "put", Str.ofString "State.put", pa67, .stmts bo67, sc67, 3, [], .none, .none, .none, vS "octetmint.machine" 816, none, .ref 572, .none, 0⟩, #[]⟩
noncomputable abbrev o593 : Obj := ⟨.type "tuple", none, .seq #[vS "self" 991, vS "register" 992, vS "size" 993, vS "worth" 994, vS "old" 995] 0, #[]⟩
noncomputable abbrev o595 : Obj := ⟨.none, none, .func ⟨Str.ofString "put_low", Str.ofString "State.put_low", pa68, .stmts bo68, sc68, 0, [], .none, .none, .none, .none, none, .none, .none, 0⟩, #[]⟩
noncomputable abbrev o596 : Obj := ⟨.type "code", none, .fields #[vS "put_low" 988, vS "State.put_low" 989, vS "/claim/cut.py" 990, .int 437 0, .int 4 0, .int 0 0, .int 0 0, .int 3 0, .ref 574, .bool true, .int 181 0, .ref 575, .none, .ref 576, .ref 577, .ref 578, .int 996 0, .int 437 0, vS "/claim/cut.py" 997], #[]⟩
noncomputable abbrev o597 : Obj := ⟨.type "function", none, .func ⟨Str.ofString "put_low", Str.ofString "State.put_low", pa68, .stmts bo68, sc68, 3, [], .none, .none, .none, vS "octetmint.machine" 816, none, .ref 579, .none, 0⟩, #[]⟩
noncomputable abbrev o600 : Obj := ⟨.none, none, .func ⟨Str.ofString "registers", Str.ofString "State.registers", pa69, .stmts bo69, sc69, 0, [], .none, .none, .none, .none, none, .none, .none, 0⟩, #[]⟩
noncomputable abbrev o601 : Obj := ⟨.type "code", none, .fields #[vS "registers" 999, vS "State.registers" 1000, vS "/claim/cut.py" 1001, .int 444 0, .int 1 0, .int 0 0, .int 0 0, .int 3 0, .ref 581, .bool true, .int 181 0, .ref 582, .none, .none, .none, .ref 583, .int 1002 0, .int 444 0, vS "/claim/cut.py" 1003], #[]⟩
noncomputable abbrev o602 : Obj := ⟨.type "function", none, .func ⟨Str.ofString "registers", Str.ofString "State.registers", pa69, .stmts bo69, sc69, 3, [], .none, .none, .none, vS "octetmint.machine" 816, none, .ref 584, .none, 0⟩, #[]⟩
noncomputable abbrev o605 : Obj := ⟨.type "tuple", none, .seq #[vS "self" 1008, vS "mem" 1009, vS "total" 1010] 0, #[]⟩
noncomputable abbrev o607 : Obj := ⟨.none, none, .func ⟨Str.ofString "offset", Str.ofString "State.offset", pa70, .stmts bo70, sc70, 0, [], .none, .none, .none, .none, none, .none, .none, 0⟩, #[]⟩
noncomputable abbrev o608 : Obj := ⟨.type "code", none, .fields #[vS "offset" 1005, vS "State.offset" 1006, vS "/claim/cut.py" 1007, .int 447 0, .int 2 0, .int 0 0, .int 0 0, .int 3 0, .ref 586, .bool true, .int 181 0, .ref 587, .none, .ref 588, .ref 589, .ref 590, .int 1011 0, .int 447 0, vS "/claim/cut.py" 1012], #[]⟩
noncomputable abbrev o609 : Obj := ⟨.type "function", none, .func ⟨Str.ofString "offset", Str.ofString "State.offset", pa70, .stmts bo70, sc70, 3, [], .none, .none, .none, vS "octetmint.machine" 816, none, .ref 591, .none, 0⟩, #[]⟩
noncomputable abbrev o612 : Obj := ⟨.type "tuple", none, .seq #[vS "self" 1017, vS "mem" 1018, vS "base" 1019] 0, #[]⟩
noncomputable abbrev o614 : Obj := ⟨.none, none, .func ⟨Str.ofString "place", Str.ofString "State.place", pa71, .stmts bo71, sc71, 0, [], .none, .none, .none, .none, none, .none, .none, 0⟩, #[]⟩
noncomputable abbrev o615 : Obj := ⟨.type "code", none, .fields #[vS "place" 1014, vS "State.place" 1015, vS "/claim/cut.py" 1016, .int 455 0, .int 2 0, .int 0 0, .int 0 0, .int 3 0, .ref 593, .bool true, .int 181 0, .ref 594, .none, .ref 595, .ref 596, .ref 597, .int 1020 0, .int 455 0, vS "/claim/cut.py" 1021], #[]⟩
noncomputable abbrev o616 : Obj := ⟨.type "function", none, .func ⟨Str.ofString "place", Str.ofString "State.place", pa71, .stmts bo71, sc71, 3, [], .none, .none, .none, vS "octetmint.machine" 816, none, .ref 598, .none, 0⟩, #[]⟩
noncomputable abbrev o619 : Obj := ⟨.type "tuple", none, .seq #[vS "self" 1026, vS "operand" 1027, vS "instruction" 1028, vS "one" 1029] 0, #[]⟩
noncomputable abbrev o621 : Obj := ⟨.none, none, .func ⟨Str.ofString "size_of", Str.ofString "State.size_of", pa72, .stmts bo72, sc72, 0, [], .none, .none, .none, .none, none, .none, .none, 0⟩, #[]⟩
noncomputable abbrev o622 : Obj := ⟨.type "code", none, .fields #[vS "size_of" 1023, vS "State.size_of" 1024, vS "/claim/cut.py" 1025, .int 459 0, .int 3 0, .int 0 0, .int 0 0, .int 3 0, .ref 600, .bool true, .int 181 0, .ref 601, .none, .ref 602, .ref 603, .ref 604, .int 1030 0, .int 459 0, vS "/claim/cut.py" 1031], #[]⟩
noncomputable abbrev o623 : Obj := ⟨.type "function", none, .func ⟨Str.ofString "size_of", Str.ofString "State.size_of", pa72, .stmts bo72, sc72, 3, [], .none, .none, .none, vS "octetmint.machine" 816, none, .ref 605, .none, 0⟩, #[]⟩
noncomputable abbrev o626 : Obj := ⟨.type "tuple", none, .seq #[vS "self" 1036, vS "operand" 1037, vS "size" 1038] 0, #[]⟩
noncomputable abbrev o628 : Obj := ⟨.none, none, .func ⟨Str.ofString "read", Str.ofString "State.read", pa73, .stmts bo73, sc73, 0, [], .none, .none, .none, .none, none, .none, .none, 0⟩, #[]⟩
noncomputable abbrev o629 : Obj := ⟨.type "code", none, .fields #[vS "read" 1033, vS "State.read" 1034, vS "/claim/cut.py" 1035, .int 467 0, .int 3 0, .int 0 0, .int 0 0, .int 3 0, .ref 607, .bool true, .int 181 0, .ref 608, .none, .ref 609, .ref 610, .ref 611, .int 1039 0, .int 467 0, vS "/claim/cut.py" 1040], #[]⟩
noncomputable abbrev o630 : Obj := ⟨.type "function", none, .func ⟨Str.ofString "read", Str.ofString "State.read", pa73, .stmts bo73, sc73, 3, [], .none, .none, .none, vS "octetmint.machine" 816, none, .ref 612, .none, 0⟩, #[]⟩
noncomputable abbrev o633 : Obj := ⟨.type "tuple", none, .seq #[vS "self" 1045, vS "operand" 1046, vS "size" 1047, vS "worth" 1048] 0, #[]⟩
noncomputable abbrev o635 : Obj := ⟨.none, none, .func ⟨Str.ofString "write", Str.ofString "State.write", pa74, .stmts bo74, sc74, 0, [], .none, .none, .none, .none, none, .none, .none, 0⟩, #[]⟩
noncomputable abbrev o636 : Obj := ⟨.type "code", none, .fields #[vS "write" 1042, vS "State.write" 1043, vS "/claim/cut.py" 1044, .int 474 0, .int 4 0, .int 0 0, .int 0 0, .int 3 0, .ref 614, .bool true, .int 181 0, .ref 615, .none, .ref 616, .ref 617, .ref 618, .int 1049 0, .int 474 0, vS "/claim/cut.py" 1050], #[]⟩
noncomputable abbrev o637 : Obj := ⟨.type "function", none, .func ⟨Str.ofString "write", Str.ofString "State.write", pa74, .stmts bo74, sc74, 3, [], .none, .none, .none, vS "octetmint.machine" 816, none, .ref 619, .none, 0⟩, #[]⟩
noncomputable abbrev o640 : Obj := ⟨.type "tuple", none, .seq #[vS "self" 1055, vS "worth" 1056, vS "width" 1057] 0, #[]⟩
noncomputable abbrev o642 : Obj := ⟨.none, none, .func ⟨Str.ofString "push", Str.ofString "State.push", pa75, .stmts bo75, sc75, 0, [], .none, .none, .none, .none, none, .none, .none, 0⟩, #[]⟩
noncomputable abbrev o643 : Obj := ⟨.type "code", none, .fields #[vS "push" 1052, vS "State.push" 1053, vS "/claim/cut.py" 1054, .int 482 0, .int 3 0, .int 0 0, .int 0 0, .int 3 0, .ref 621, .bool true, .int 181 0, .ref 622, .none, .ref 623, .ref 624, .ref 625, .int 1058 0, .int 482 0, vS "/claim/cut.py" 1059], #[]⟩
noncomputable abbrev o644 : Obj := ⟨.type "function", none, .func ⟨Str.ofString "push", Str.ofString "State.push", pa75, .stmts bo75, sc75, 3, [], .none, .none, .none, vS "octetmint.machine" 816, none, .ref 626, .none, 0⟩, #[]⟩
noncomputable abbrev o647 : Obj := ⟨.type "tuple", none, .seq #[vS "self" 1064, vS "width" 1065, vS "worth" 1066] 0, #[]⟩
noncomputable abbrev o649 : Obj := ⟨.none, none, .func ⟨Str.ofString "pop", Str.ofString "State.pop", pa76, .stmts bo76, sc76, 0, [], .none, .none, .none, .none, none, .none, .none, 0⟩, #[]⟩
noncomputable abbrev o650 : Obj := ⟨.type "code", none, .fields #[vS "pop" 1061, vS "State.pop" 1062, vS "/claim/cut.py" 1063, .int 486 0, .int 2 0, .int 0 0, .int 0 0, .int 3 0, .ref 628, .bool true, .int 181 0, .ref 629, .none, .ref 630, .ref 631, .ref 632, .int 1067 0, .int 486 0, vS "/claim/cut.py" 1068], #[]⟩
noncomputable abbrev o651 : Obj := ⟨.type "function", none, .func ⟨Str.ofString "pop", Str.ofString "State.pop", pa76, .stmts bo76, sc76, 3, [], .none, .none, .none, vS "octetmint.machine" 816, none, .ref 633, .none, 0⟩, #[]⟩
noncomputable abbrev o654 : Obj := ⟨.type "tuple", none, .seq #[vS "self" 1073, vS "bases" 1074] 0, #[]⟩
noncomputable abbrev o656 : Obj := ⟨.none, none, .func ⟨Str.ofString "told", Str.ofString "State.told", pa77, .stmts bo77, sc77, 0, [], .none, .none, .none, .none, none, .none, .none, 0⟩, #[]⟩
noncomputable abbrev o657 : Obj := ⟨.type "code", none, .fields #[vS "told" 1070, vS "State.told" 1071, vS "/claim/cut.py" 1072, .int 491 0, .int 1 0, .int 0 0, .int 0 0, .int 3 0, .ref 635, .bool true, .int 181 0, .ref 636, .none, .ref 637, .ref 638, .ref 639, .int 1075 0, .int 491 0, vS "/claim/cut.py" 1076], #[]⟩
noncomputable abbrev o658 : Obj := ⟨.type "function", none, .func ⟨Str.ofString "told", Str.ofString "State.told", pa77, .stmts bo77, sc77, 3, [], .none, .none, .none, vS "octetmint.machine" 816, none, .ref 640, .none, 0⟩, #[]⟩
noncomputable abbrev o661 : Obj := ⟨.type "tuple", none, .seq #[vS "self" 1081] 0, #[]⟩
noncomputable abbrev o663 : Obj := ⟨.none, none, .func ⟨Str.ofString "copy", Str.ofString "State.copy", pa78, .stmts bo78, sc78, 0, [], .none, .none, .none, .none, none, .none, .none, 0⟩, #[]⟩
noncomputable abbrev o664 : Obj := ⟨.type "code", none, .fields #[vS "copy" 1078, vS "State.copy" 1079, vS "/claim/cut.py" 1080, .int 495 0, .int 1 0, .int 0 0, .int 0 0, .int 3 0, .ref 642, .bool true, .int 181 0, .ref 643, .none, .ref 644, .ref 645, .ref 646, .int 1082 0, .int 495 0, vS "/claim/cut.py" 1083], #[]⟩
noncomputable abbrev o665 : Obj := ⟨.type "function", none, .func ⟨Str.ofString "copy", Str.ofString "State.copy", pa78, .stmts bo78, sc78, 3, [], .none, .none, .none, vS "octetmint.machine" 816, none, .ref 647, .none, 0⟩, #[]⟩
noncomputable abbrev o666 : Obj := ⟨.type "tuple", none, .seq #[vS "begin" 1085, vS "flags" 1086, vS "is_halted" 1087, vS "iset" 1088, vS "memory" 1089, vS "regs" 1090, vS "rip" 1091, vS "segments" 1092, vS "xmm" 1093] 0, #[]⟩
noncomputable abbrev o667 (P : Params) : Obj := ⟨.type "dict", none, .dict #[dE P "__module__" 957 (vS "octetmint.machine" 816), dE P "__firstlineno__" 961 (.int 401 960), dE P "__init__" 969 (.ref 559), dE P "get" 977 (.ref 566), dE P "put" 987 (.ref 573), dE P "put_low" 998 (.ref 580), dE P "registers" 1004 (.ref 585), dE P "offset" 1013 (.ref 592), dE P "place" 1022 (.ref 599), dE P "size_of" 1032 (.ref 606), dE P "read" 1041 (.ref 613), dE P "write" 1051 (.ref 620), dE P "push" 1060 (.ref 627), dE P "pop" 1069 (.ref 634), dE P "told" 1077 (.ref 641), dE P "copy" 1084 (.ref 648), dE P "__static_attributes__" 1094 (.ref 649), dE P "__dict__" 1096 (.ref 652), dE P "__weakref__" 1098 (.ref 653), dE P "__doc__" 1099 .none] 4, #[]⟩
noncomputable abbrev o668 : Obj := ⟨.type "type", none, .cls ⟨Str.ofString "State", [.type "object"], [.ref 651, .type "object"], 650, Str.ofString "State", true, [], [], false, none, false⟩, #[none, none, some (vS "State" 950), some (vS "State" 958), some (.builtin "object.__new__"), some (.bool true)]⟩
noncomputable abbrev o669 : Obj := ⟨.type "getset_descriptor", none, .fields #[vS "__dict__" 1095, .ref 651, .builtin "function.__dict__", .builtin "function.__dict__#set"], #[]⟩
noncomputable abbrev o670 : Obj := ⟨.type "getset_descriptor", none, .fields #[vS "__weakref__" 1097, .ref 651, .builtin "ExceptionGroup.__weakref__", .none], #[]⟩
noncomputable abbrev o671 : Obj := ⟨.type "super", none, .fields #[.ref 651, .ref 651, .ref 651], #[]⟩
noncomputable abbrev o672 : Obj := ⟨.type "builtin_function_or_method", none, .fields #[.builtin "object.__init_subclass__", .ref 651], #[]⟩
noncomputable abbrev o673 (P : Params) : Obj := ⟨.type "dict", none, (.dict #[dE P "__name__" 165 (vS "octetmint.operands" 1102), dE P "__doc__" 166 .none, dE P "__package__" 167 .none, dE P "__loader__" 168 (.builtin "__main__.__loader__#opaque"), dE P "__spec__" 169 .none, dE P "__annotations__" 170 (.ref 6), dE P "__builtins__" 171 (.ref 4), dE P "__file__" 173 (vS "/claim/cut.py" 172), dE P "__cached__" 174 .none, dE P "_wall" 193 (.ref 21), dE P "MintError" 233 (.ref 46), dE P "OperandError" 249 (.ref 59), dE P "MachineError" 265 (.ref 71), dE P "mask" 272 (.ref 80), dE P "wrap" 280 (.ref 87), dE P "signed" 289 (.ref 94), dE P "extended" 298 (.ref 101), dE P "bit" 306 (.ref 108), dE P "ones" 316 (.ref 115), dE P "parity" 323 (.ref 122), dE P "CONDITIONS" 327 (vS "o no b ae e ne be a s ns p np l ge le g" 326), dE P "condition_names" 333 (.ref 129), dE P "CF" 337 (.int 0 336), dE P "PF" 339 (.int 2 338), dE P "AF" 341 (.int 4 340), dE P "ZF" 343 (.int 6 342), dE P "SF" 345 (.int 7 344), dE P "DF" 347 (.int 10 346), dE P "OF" 349 (.int 11 348), dE P "FLAG_NAMES" 351 (vS "cf pf af zf sf of df" 350), dE P "Flags" 451 (.ref 202), dE P "condition_number" 458 (.ref 213), dE P "holds_number" 468 (.ref 220), dE P "holds" 476 (.ref 227), dE P "szp" 486 (.ref 234), dE P "add_flags" 501 (.ref 241), dE P "sub_flags" 516 (.ref 248), dE P "logic_flags" 525 (.ref 255), dE P "inc_flags" 536 (.ref 262), dE P "dec_flags" 547 (.ref 269), dE P "neg_flags" 556 (.ref 276), dE P "condition_of" 566 (.ref 283), dE P "NAMES_8" 570 (vS "al cl dl bl spl bpl sil dil" 569), dE P "NAMES_16" 572 (vS "ax cx dx bx sp bp si di" 571), dE P "NAMES_32" 574 (vS "eax ecx edx ebx esp ebp esi edi" 573), dE P "NAMES_64" 576 (vS "rax rcx rdx rbx rsp rbp rsi rdi" 575), dE P "HIGH_NAMES" 578 (vS "ah ch dh bh" 577), dE P "Register" 648 (.ref 335), dE P "early_names" 655 (.ref 346), dE P "late_ending" 662 (.ref 353), dE P "gpr" 671 (.ref 360), dE P "high" 678 (.ref 367), dE P "AH_NUMBER" 682 (.int 4 681), dE P "combined" 693 (.ref 374), dE P "two_deed" 707 (.ref 381), dE P "one_deed" 719 (.ref 388), dE P "xadd_deed" 733 (.ref 395), dE P "cmpxchg_deed" 748 (.ref 402), dE P "flag_deed" 757 (.ref 409), dE P "set_deed" 766 (.ref 416), dE P "cmov_deed" 779 (.ref 423), dE P "arith_deed" 788 (.ref 430), dE P "ALIASES" 792 (vS "c:b nae:b nb:ae nc:ae z:e nz:ne na:be nbe:a pe:p po:np nge:l nl:ge ng:le nle:g" 791), dE P "OTHER_NAMES" 794 (vS "sal:shl loopz:loope loopnz:loopne repe:rep repz:rep repnz:repne" 793), dE P "pairs_of" 805 (.ref 437), dE P "canonical" 815 (.ref 444), dE P "STACK" 819 (.int 4 818), dE P "Memory" 940 (.ref 534), dE P "joined" 949 (.ref 545), dE P "State" 1101 (.ref 651), dE P "Operand" 1153 (.ref 693)] 71), #[]⟩
noncomputable abbrev o674 : Obj := ⟨.none, none, .fields #[.int 1 0, .int 0 0, .ref 20, .int 5 0, .int 0 0, .ref 27, .int 16 0, .int 0 0, .ref 55, .int 18 0, .int 0 0, .ref 67, .int 20 0, .int 0 0, .ref 79, .int 22 0, .int 0 0, .ref 86, .int 24 0, .int 0 0, .ref 93, .int 29 0, .int 0 0, .ref 100, .int 31 0, .int 0 0, .ref 107, .int 33 0, .int 0 0, .ref 114, .int 40 0, .int 0 0, .ref 121, .int 44 0, .int 0 0, .ref 128, .int 55 0, .int 0 0, .ref 135, .int 108 0, .int 0 0, .ref 212, .int 112 0, .int 0 0, .ref 219, .int 131 0, .int 0 0, .ref 226, .int 133 0, .int 0 0, .ref 233, .int 139 0, .int 0 0, .ref 240, .int 147 0, .int 0 0, .ref 247, .int 155 0, .int 0 0, .ref 254, .int 160 0, .int 0 0, .ref 261, .int 165 0, .int 0 0, .ref 268, .int 170 0, .int 0 0, .ref 275, .int 173 0, .int 0 0, .ref 282, .int 184 0, .int 0 0, .ref 289, .int 206 0, .int 0 0, .ref 345, .int 216 0, .int 0 0, .ref 352, .int 224 0, .int 0 0, .ref 359, .int 231 0, .int 0 0, .ref 366, .int 237 0, .int 0 0, .ref 373, .int 251 0, .int 0 0, .ref 380, .int 258 0, .int 0 0, .ref 387, .int 271 0, .int 0 0, .ref 394, .int 282 0, .int 0 0, .ref 401, .int 292 0, .int 0 0, .ref 408, .int 308 0, .int 0 0, .ref 415, .int 311 0, .int 0 0, .ref 422, .int 316 0, .int 0 0, .ref 429, .int 338 0, .int 0 0, .ref 436, .int 344 0, .int 0 0, .ref 443, .int 355 0, .int 0 0, .ref 450, .int 397 0, .int 0 0, .ref 544, .int 401 0, .int 0 0, .ref 551, .int 498 0, .int 0 0, .ref 661], #[]⟩
noncomputable abbrev o677 (P : Params) : Obj := ⟨.type "dict", none, .dict #[dE P "__module__" 1111 (vS "octetmint.operands" 1102), dE P "__qualname__" 1113 (vS "Operand" 1112), dE P "__firstlineno__" 1115 (.int 498 1114), dE P "__init__" 1123 (.ref 669), dE P "told" 1130 (.ref 676), dE P "symbol" 1137 (.ref 683), dE P "registers" 1144 (.ref 690), dE P "__static_attributes__" 1146 (.ref 691)] 8, #[]⟩
noncomputable abbrev o679 : Obj := ⟨.none, none, .fields #[.int 500 0, .int 4 0, .ref 668, .int 503 0, .int 4 0, .ref 675, .int 506 0, .int 4 0, .ref 682, .int 509 0, .int 4 0, .ref 689], #[]⟩
noncomputable abbrev o680 : Obj := ⟨.type "code", none, .fields #[vS "Operand" 1106, vS "Operand" 1107, vS "/claim/cut.py" 1108, .int 498 0, .int 0 0, .int 0 0, .int 0 0, .int 0 0, .ref 659, .bool false, .int 181 0, .ref 660, .none, .none, .none, .none, .int 1109 0, .int 498 0, vS "/claim/cut.py" 1110], #[]⟩
noncomputable abbrev o681 : Obj := ⟨.type "frame", none, .plain, #[some (.ref 661), some (.ref 3), some (.ref 658), none, some (vS "octetmint.operands" 1102), none, some (.ref 0)]⟩
noncomputable abbrev o684 : Obj := ⟨.type "tuple", none, .seq #[vS "self" 1119, vS "kind" 1120] 0, #[]⟩
noncomputable abbrev o686 : Obj := ⟨.none, none, .func ⟨Str.ofString "__init__", Str.ofString "Operand.__init__", pa79, .stmts bo79, sc79, 0, [], .none, .none, .none, .none, none, .none, .none, 0⟩, #[]⟩
noncomputable abbrev o687 : Obj := ⟨.type "code", none, .fields #[vS "__init__" 1116, vS "Operand.__init__" 1117, vS "/claim/cut.py" 1118, .int 500 0, .int 2 0, .int 0 0, .int 0 0, .int 3 0, .ref 663, .bool true, .int 181 0, .ref 664, .none, .ref 665, .ref 666, .ref 667, .int 1121 0, .int 500 0, vS "/claim/cut.py" 1122], #[]⟩
noncomputable abbrev o688 : Obj := ⟨.type "function", none, .func ⟨Str.ofString "__init__", Str.ofString "Operand.__init__", pa79, .stmts bo79, sc79, 3, [], .none, .none, .none, vS "octetmint.operands" 1102, none, .ref 668, .none, 0⟩, #[]⟩
noncomputable abbrev o691 : Obj := ⟨.type "tuple", none, .seq #[vS "self" 1127] 0, #[]⟩
noncomputable abbrev o693 : Obj := ⟨.none, none, .func ⟨Str.ofString "told", Str.ofString "Operand.told", pa80, .stmts bo80, sc80, 0, [], .none, .none, .none, .none, none, .none, .none, 0⟩, #[]⟩
noncomputable abbrev o694 : Obj := ⟨.type "code", none, .fields #[vS "told" 1124, vS "Operand.told" 1125, vS "/claim/cut.py" 1126, .int 503 0, .int 1 0, .int 0 0, .int 0 0, .int 3 0, .ref 670, .bool true, .int 181 0, .ref 671, .none, .ref 672, .ref 673, .ref 674, .int 1128 0, .int 503 0, vS "/claim/cut.py" 1129], #[]⟩
noncomputable abbrev o695 : Obj := ⟨.type "function", none, .func ⟨Str.ofString "told", Str.ofString "Operand.told", pa80, .stmts bo80, sc80, 3, [], .none, .none, .none, vS "octetmint.operands" 1102, none, .ref 675, .none, 0⟩, #[]⟩
noncomputable abbrev o698 : Obj := ⟨.type "tuple", none, .seq #[vS "self" 1134] 0, #[]⟩
noncomputable abbrev o700 : Obj := ⟨.none, none, .func ⟨Str.ofString "symbol", Str.ofString "Operand.symbol", pa81, .stmts bo81, sc81, 0, [], .none, .none, .none, .none, none, .none, .none, 0⟩, #[]⟩
noncomputable abbrev o701 : Obj := ⟨.type "code", none, .fields #[vS "symbol" 1131, vS "Operand.symbol" 1132, vS "/claim/cut.py" 1133, .int 506 0, .int 1 0, .int 0 0, .int 0 0, .int 3 0, .ref 677, .bool true, .int 181 0, .ref 678, .none, .ref 679, .ref 680, .ref 681, .int 1135 0, .int 506 0, vS "/claim/cut.py" 1136], #[]⟩
noncomputable abbrev o702 : Obj := ⟨.type "function", none, .func ⟨Str.ofString "symbol", Str.ofString "Operand.symbol", pa81, .stmts bo81, sc81, 3, [], .none, .none, .none, vS "octetmint.operands" 1102, none, .ref 682, .none, 0⟩, #[]⟩
noncomputable abbrev o705 : Obj := ⟨.type "tuple", none, .seq #[vS "self" 1141] 0, #[]⟩
noncomputable abbrev o707 : Obj := ⟨.none, none, .func ⟨Str.ofString "registers", Str.ofString "Operand.registers", pa82, .stmts bo82, sc82, 0, [], .none, .none, .none, .none, none, .none, .none, 0⟩, #[]⟩
noncomputable abbrev o708 : Obj := ⟨.type "code", none, .fields #[vS "registers" 1138, vS "Operand.registers" 1139, vS "/claim/cut.py" 1140, .int 509 0, .int 1 0, .int 0 0, .int 0 0, .int 3 0, .ref 684, .bool true, .int 181 0, .ref 685, .none, .ref 686, .ref 687, .ref 688, .int 1142 0, .int 509 0, vS "/claim/cut.py" 1143], #[]⟩
noncomputable abbrev o709 : Obj := ⟨.type "function", none, .func ⟨Str.ofString "registers", Str.ofString "Operand.registers", pa82, .stmts bo82, sc82, 3, [], .none, .none, .none, vS "octetmint.operands" 1102, none, .ref 689, .none, 0⟩, #[]⟩
noncomputable abbrev o710 : Obj := ⟨.type "tuple", none, .seq #[vS "kind" 1145] 0, #[]⟩
noncomputable abbrev o711 (P : Params) : Obj := ⟨.type "dict", none, .dict #[dE P "__module__" 1111 (vS "octetmint.operands" 1102), dE P "__firstlineno__" 1115 (.int 498 1114), dE P "__init__" 1123 (.ref 669), dE P "told" 1130 (.ref 676), dE P "symbol" 1137 (.ref 683), dE P "registers" 1144 (.ref 690), dE P "__static_attributes__" 1146 (.ref 691), dE P "__dict__" 1148 (.ref 694), dE P "__weakref__" 1150 (.ref 695), dE P "__doc__" 1151 .none] 4, #[]⟩
noncomputable abbrev o712 : Obj := ⟨.type "type", none, .cls ⟨Str.ofString "Operand", [.type "object"], [.ref 693, .type "object"], 692, Str.ofString "Operand", true, [], [], false, none, false⟩, #[none, none, some (vS "Operand" 1104), some (vS "Operand" 1112), some (.builtin "object.__new__"), some (.bool true)]⟩
noncomputable abbrev o713 : Obj := ⟨.type "getset_descriptor", none, .fields #[vS "__dict__" 1147, .ref 693, .builtin "function.__dict__", .builtin "function.__dict__#set"], #[]⟩
noncomputable abbrev o714 : Obj := ⟨.type "getset_descriptor", none, .fields #[vS "__weakref__" 1149, .ref 693, .builtin "ExceptionGroup.__weakref__", .none], #[]⟩
noncomputable abbrev o715 : Obj := ⟨.type "super", none, .fields #[.ref 693, .ref 693, .ref 693], #[]⟩
noncomputable abbrev o716 : Obj := ⟨.type "builtin_function_or_method", none, .fields #[.builtin "object.__init_subclass__", .ref 693], #[]⟩
noncomputable abbrev o717 (P : Params) : Obj := ⟨.type "dict", none, (.dict #[dE P "__name__" 165 (vS "octetmint.operands" 1102), dE P "__doc__" 166 .none, dE P "__package__" 167 .none, dE P "__loader__" 168 (.builtin "__main__.__loader__#opaque"), dE P "__spec__" 169 .none, dE P "__annotations__" 170 (.ref 6), dE P "__builtins__" 171 (.ref 4), dE P "__file__" 173 (vS "/claim/cut.py" 172), dE P "__cached__" 174 .none, dE P "_wall" 193 (.ref 21), dE P "MintError" 233 (.ref 46), dE P "OperandError" 249 (.ref 59), dE P "MachineError" 265 (.ref 71), dE P "mask" 272 (.ref 80), dE P "wrap" 280 (.ref 87), dE P "signed" 289 (.ref 94), dE P "extended" 298 (.ref 101), dE P "bit" 306 (.ref 108), dE P "ones" 316 (.ref 115), dE P "parity" 323 (.ref 122), dE P "CONDITIONS" 327 (vS "o no b ae e ne be a s ns p np l ge le g" 326), dE P "condition_names" 333 (.ref 129), dE P "CF" 337 (.int 0 336), dE P "PF" 339 (.int 2 338), dE P "AF" 341 (.int 4 340), dE P "ZF" 343 (.int 6 342), dE P "SF" 345 (.int 7 344), dE P "DF" 347 (.int 10 346), dE P "OF" 349 (.int 11 348), dE P "FLAG_NAMES" 351 (vS "cf pf af zf sf of df" 350), dE P "Flags" 451 (.ref 202), dE P "condition_number" 458 (.ref 213), dE P "holds_number" 468 (.ref 220), dE P "holds" 476 (.ref 227), dE P "szp" 486 (.ref 234), dE P "add_flags" 501 (.ref 241), dE P "sub_flags" 516 (.ref 248), dE P "logic_flags" 525 (.ref 255), dE P "inc_flags" 536 (.ref 262), dE P "dec_flags" 547 (.ref 269), dE P "neg_flags" 556 (.ref 276), dE P "condition_of" 566 (.ref 283), dE P "NAMES_8" 570 (vS "al cl dl bl spl bpl sil dil" 569), dE P "NAMES_16" 572 (vS "ax cx dx bx sp bp si di" 571), dE P "NAMES_32" 574 (vS "eax ecx edx ebx esp ebp esi edi" 573), dE P "NAMES_64" 576 (vS "rax rcx rdx rbx rsp rbp rsi rdi" 575), dE P "HIGH_NAMES" 578 (vS "ah ch dh bh" 577), dE P "Register" 648 (.ref 335), dE P "early_names" 655 (.ref 346), dE P "late_ending" 662 (.ref 353), dE P "gpr" 671 (.ref 360), dE P "high" 678 (.ref 367), dE P "AH_NUMBER" 682 (.int 4 681), dE P "combined" 693 (.ref 374), dE P "two_deed" 707 (.ref 381), dE P "one_deed" 719 (.ref 388), dE P "xadd_deed" 733 (.ref 395), dE P "cmpxchg_deed" 748 (.ref 402), dE P "flag_deed" 757 (.ref 409), dE P "set_deed" 766 (.ref 416), dE P "cmov_deed" 779 (.ref 423), dE P "arith_deed" 788 (.ref 430), dE P "ALIASES" 792 (vS "c:b nae:b nb:ae nc:ae z:e nz:ne na:be nbe:a pe:p po:np nge:l nl:ge ng:le nle:g" 791), dE P "OTHER_NAMES" 794 (vS "sal:shl loopz:loope loopnz:loopne repe:rep repz:rep repnz:repne" 793), dE P "pairs_of" 805 (.ref 437), dE P "canonical" 815 (.ref 444), dE P "STACK" 819 (.int 4 818), dE P "Memory" 940 (.ref 534), dE P "joined" 949 (.ref 545), dE P "State" 1101 (.ref 651), dE P "Operand" 1153 (.ref 693), dE P "Reg" 1192 (.ref 728)] 72), #[]⟩
noncomputable abbrev o718 : Obj := ⟨.none, none, .fields #[.int 1 0, .int 0 0, .ref 20, .int 5 0, .int 0 0, .ref 27, .int 16 0, .int 0 0, .ref 55, .int 18 0, .int 0 0, .ref 67, .int 20 0, .int 0 0, .ref 79, .int 22 0, .int 0 0, .ref 86, .int 24 0, .int 0 0, .ref 93, .int 29 0, .int 0 0, .ref 100, .int 31 0, .int 0 0, .ref 107, .int 33 0, .int 0 0, .ref 114, .int 40 0, .int 0 0, .ref 121, .int 44 0, .int 0 0, .ref 128, .int 55 0, .int 0 0, .ref 135, .int 108 0, .int 0 0, .ref 212, .int 112 0, .int 0 0, .ref 219, .int 131 0, .int 0 0, .ref 226, .int 133 0, .int 0 0, .ref 233, .int 139 0, .int 0 0, .ref 240, .int 147 0, .int 0 0, .ref 247, .int 155 0, .int 0 0, .ref 254, .int 160 0, .int 0 0, .ref 261, .int 165 0, .int 0 0, .ref 268, .int 170 0, .int 0 0, .ref 275, .int 173 0, .int 0 0, .ref 282, .int 184 0, .int 0 0, .ref 289, .int 206 0, .int 0 0, .ref 345, .int 216 0, .int 0 0, .ref 352, .int 224 0, .int 0 0, .ref 359, .int 231 0, .int 0 0, .ref 366, .int 237 0, .int 0 0, .ref 373, .int 251 0, .int 0 0, .ref 380, .int 258 0, .int 0 0, .ref 387, .int 271 0, .int 0 0, .ref 394, .int 282 0, .int 0 0, .ref 401, .int 292 0, .int 0 0, .ref 408, .int 308 0, .int 0 0, .ref 415, .int 311 0, .int 0 0, .ref 422, .int 316 0, .int 0 0, .ref 429, .int 338 0, .int 0 0, .ref 436, .int 344 0, .int 0 0, .ref 443, .int 355 0, .int 0 0, .ref 450, .int 397 0, .int 0 0, .ref 544, .int 401 0, .int 0 0, .ref 551, .int 498 0, .int 0 0, .ref 661, .int 511 0, .int 0 0, .ref 703], #[]⟩
noncomputable abbrev o719 : Obj := ⟨.type "type", none, .cls ⟨Str.ofString "Operand", [.type "object"], [.ref 693, .type "object"], 692, Str.ofString "Operand", true, [], [.ref 728], false, none, false⟩, #[none, none, some (vS "Operand" 1104), some (vS "Operand" 1112), some (.builtin "object.__new__"), some (.bool true)]⟩
noncomputable abbrev o720 : Obj := ⟨.type "tuple", none, .seq #[.ref 693] 0, #[]⟩
noncomputable abbrev o722 (P : Params) : Obj := ⟨.type "dict", none, .dict #[dE P "__module__" 1161 (vS "octetmint.operands" 1102), dE P "__qualname__" 1163 (vS "Reg" 1162), dE P "__firstlineno__" 1165 (.int 511 1164), dE P "__init__" 1173 (.ref 711), dE P "told" 1180 (.ref 718), dE P "registers" 1187 (.ref 725), dE P "__static_attributes__" 1189 (.ref 726)] 7, #[]⟩
noncomputable abbrev o724 : Obj := ⟨.none, none, .fields #[.int 513 0, .int 4 0, .ref 710, .int 517 0, .int 4 0, .ref 717, .int 520 0, .int 4 0, .ref 724], #[]⟩
noncomputable abbrev o725 : Obj := ⟨.type "code", none, .fields #[vS "Reg" 1156, vS "Reg" 1157, vS "/claim/cut.py" 1158, .int 511 0, .int 0 0, .int 0 0, .int 0 0, .int 0 0, .ref 701, .bool false, .int 181 0, .ref 702, .none, .none, .none, .none, .int 1159 0, .int 511 0, vS "/claim/cut.py" 1160], #[]⟩
noncomputable abbrev o726 : Obj := ⟨.type "frame", none, .plain, #[some (.ref 703), some (.ref 3), some (.ref 700), none, some (vS "octetmint.operands" 1102), none, some (.ref 0)]⟩
noncomputable abbrev o729 : Obj := ⟨.type "tuple", none, .seq #[vS "self" 1169, vS "register" 1170] 0, #[]⟩
noncomputable abbrev o731 : Obj := ⟨.none, none, .func ⟨Str.ofString "__init__", Str.ofString "Reg.__init__", pa83, .stmts bo83, sc83, 0, [], .none, .none, .none, .none, none, .none, .none, 0⟩, #[]⟩
noncomputable abbrev o732 : Obj := ⟨.type "code", none, .fields #[vS "__init__" 1166, vS "Reg.__init__" 1167, vS "/claim/cut.py" 1168, .int 513 0, .int 2 0, .int 0 0, .int 0 0, .int 3 0, .ref 705, .bool true, .int 181 0, .ref 706, .none, .ref 707, .ref 708, .ref 709, .int 1171 0, .int 513 0, vS "/claim/cut.py" 1172], #[]⟩
noncomputable abbrev o733 : Obj := ⟨.type "function", none, .func ⟨Str.ofString "__init__", Str.ofString "Reg.__init__", pa83, .stmts bo83, sc83, 3, [], .none, .none, .none, vS "octetmint.operands" 1102, none, .ref 710, .none, 0⟩, #[]⟩
noncomputable abbrev o736 : Obj := ⟨.type "tuple", none, .seq #[vS "self" 1177] 0, #[]⟩
noncomputable abbrev o738 : Obj := ⟨.none, none, .func ⟨Str.ofString "told", Str.ofString "Reg.told", pa84, .stmts bo84, sc84, 0, [], .none, .none, .none, .none, none, .none, .none, 0⟩, #[]⟩
noncomputable abbrev o739 : Obj := ⟨.type "code", none, .fields #[vS "told" 1174, vS "Reg.told" 1175, vS "/claim/cut.py" 1176, .int 517 0, .int 1 0, .int 0 0, .int 0 0, .int 3 0, .ref 712, .bool true, .int 181 0, .ref 713, .none, .ref 714, .ref 715, .ref 716, .int 1178 0, .int 517 0, vS "/claim/cut.py" 1179], #[]⟩
noncomputable abbrev o740 : Obj := ⟨.type "function", none, .func ⟨Str.ofString "told", Str.ofString "Reg.told", pa84, .stmts bo84, sc84, 3, [], .none, .none, .none, vS "octetmint.operands" 1102, none, .ref 717, .none, 0⟩, #[]⟩
noncomputable abbrev o743 : Obj := ⟨.type "tuple", none, .seq #[vS "self" 1184] 0, #[]⟩
noncomputable abbrev o745 : Obj := ⟨.none, none, .func ⟨Str.ofString "registers", Str.ofString "Reg.registers", pa85, .stmts bo85, sc85, 0, [], .none, .none, .none, .none, none, .none, .none, 0⟩, #[]⟩
noncomputable abbrev o746 : Obj := ⟨.type "code", none, .fields #[vS "registers" 1181, vS "Reg.registers" 1182, vS "/claim/cut.py" 1183, .int 520 0, .int 1 0, .int 0 0, .int 0 0, .int 3 0, .ref 719, .bool true, .int 181 0, .ref 720, .none, .ref 721, .ref 722, .ref 723, .int 1185 0, .int 520 0, vS "/claim/cut.py" 1186], #[]⟩
noncomputable abbrev o747 : Obj := ⟨.type "function", none, .func ⟨Str.ofString "registers", Str.ofString "Reg.registers", pa85, .stmts bo85, sc85, 3, [], .none, .none, .none, vS "octetmint.operands" 1102, none, .ref 724, .none, 0⟩, #[]⟩
noncomputable abbrev o748 : Obj := ⟨.type "tuple", none, .seq #[vS "register" 1188] 0, #[]⟩
noncomputable abbrev o749 (P : Params) : Obj := ⟨.type "dict", none, .dict #[dE P "__module__" 1161 (vS "octetmint.operands" 1102), dE P "__firstlineno__" 1165 (.int 511 1164), dE P "__init__" 1173 (.ref 711), dE P "told" 1180 (.ref 718), dE P "registers" 1187 (.ref 725), dE P "__static_attributes__" 1189 (.ref 726), dE P "__doc__" 1190 .none] 2, #[]⟩
noncomputable abbrev o750 : Obj := ⟨.type "type", none, .cls ⟨Str.ofString "Reg", [.ref 693], [.ref 728, .ref 693, .type "object"], 727, Str.ofString "Reg", true, [], [], false, none, false⟩, #[some (.ref 698), none, some (vS "Reg" 1154), some (vS "Reg" 1162), some (.builtin "object.__new__"), some (.bool true)]⟩
noncomputable abbrev o751 : Obj := ⟨.type "super", none, .fields #[.ref 728, .ref 728, .ref 728], #[]⟩
noncomputable abbrev o752 : Obj := ⟨.type "builtin_function_or_method", none, .fields #[.builtin "object.__init_subclass__", .ref 728], #[]⟩
noncomputable abbrev o753 (P : Params) : Obj := ⟨.type "dict", none, (.dict #[dE P "__name__" 165 (vS "octetmint.operands" 1102), dE P "__doc__" 166 .none, dE P "__package__" 167 .none, dE P "__loader__" 168 (.builtin "__main__.__loader__#opaque"), dE P "__spec__" 169 .none, dE P "__annotations__" 170 (.ref 6), dE P "__builtins__" 171 (.ref 4), dE P "__file__" 173 (vS "/claim/cut.py" 172), dE P "__cached__" 174 .none, dE P "_wall" 193 (.ref 21), dE P "MintError" 233 (.ref 46), dE P "OperandError" 249 (.ref 59), dE P "MachineError" 265 (.ref 71), dE P "mask" 272 (.ref 80), dE P "wrap" 280 (.ref 87), dE P "signed" 289 (.ref 94), dE P "extended" 298 (.ref 101), dE P "bit" 306 (.ref 108), dE P "ones" 316 (.ref 115), dE P "parity" 323 (.ref 122), dE P "CONDITIONS" 327 (vS "o no b ae e ne be a s ns p np l ge le g" 326), dE P "condition_names" 333 (.ref 129), dE P "CF" 337 (.int 0 336), dE P "PF" 339 (.int 2 338), dE P "AF" 341 (.int 4 340), dE P "ZF" 343 (.int 6 342), dE P "SF" 345 (.int 7 344), dE P "DF" 347 (.int 10 346), dE P "OF" 349 (.int 11 348), dE P "FLAG_NAMES" 351 (vS "cf pf af zf sf of df" 350), dE P "Flags" 451 (.ref 202), dE P "condition_number" 458 (.ref 213), dE P "holds_number" 468 (.ref 220), dE P "holds" 476 (.ref 227), dE P "szp" 486 (.ref 234), dE P "add_flags" 501 (.ref 241), dE P "sub_flags" 516 (.ref 248), dE P "logic_flags" 525 (.ref 255), dE P "inc_flags" 536 (.ref 262), dE P "dec_flags" 547 (.ref 269), dE P "neg_flags" 556 (.ref 276), dE P "condition_of" 566 (.ref 283), dE P "NAMES_8" 570 (vS "al cl dl bl spl bpl sil dil" 569), dE P "NAMES_16" 572 (vS "ax cx dx bx sp bp si di" 571), dE P "NAMES_32" 574 (vS "eax ecx edx ebx esp ebp esi edi" 573), dE P "NAMES_64" 576 (vS "rax rcx rdx rbx rsp rbp rsi rdi" 575), dE P "HIGH_NAMES" 578 (vS "ah ch dh bh" 577), dE P "Register" 648 (.ref 335), dE P "early_names" 655 (.ref 346), dE P "late_ending" 662 (.ref 353), dE P "gpr" 671 (.ref 360), dE P "high" 678 (.ref 367), dE P "AH_NUMBER" 682 (.int 4 681), dE P "combined" 693 (.ref 374), dE P "two_deed" 707 (.ref 381), dE P "one_deed" 719 (.ref 388), dE P "xadd_deed" 733 (.ref 395), dE P "cmpxchg_deed" 748 (.ref 402), dE P "flag_deed" 757 (.ref 409), dE P "set_deed" 766 (.ref 416), dE P "cmov_deed" 779 (.ref 423), dE P "arith_deed" 788 (.ref 430), dE P "ALIASES" 792 (vS "c:b nae:b nb:ae nc:ae z:e nz:ne na:be nbe:a pe:p po:np nge:l nl:ge ng:le nle:g" 791), dE P "OTHER_NAMES" 794 (vS "sal:shl loopz:loope loopnz:loopne repe:rep repz:rep repnz:repne" 793), dE P "pairs_of" 805 (.ref 437), dE P "canonical" 815 (.ref 444), dE P "STACK" 819 (.int 4 818), dE P "Memory" 940 (.ref 534), dE P "joined" 949 (.ref 545), dE P "State" 1101 (.ref 651), dE P "Operand" 1153 (.ref 693), dE P "Reg" 1192 (.ref 728), dE P "Rel" 1242 (.ref 769)] 73), #[]⟩
noncomputable abbrev o754 : Obj := ⟨.none, none, .fields #[.int 1 0, .int 0 0, .ref 20, .int 5 0, .int 0 0, .ref 27, .int 16 0, .int 0 0, .ref 55, .int 18 0, .int 0 0, .ref 67, .int 20 0, .int 0 0, .ref 79, .int 22 0, .int 0 0, .ref 86, .int 24 0, .int 0 0, .ref 93, .int 29 0, .int 0 0, .ref 100, .int 31 0, .int 0 0, .ref 107, .int 33 0, .int 0 0, .ref 114, .int 40 0, .int 0 0, .ref 121, .int 44 0, .int 0 0, .ref 128, .int 55 0, .int 0 0, .ref 135, .int 108 0, .int 0 0, .ref 212, .int 112 0, .int 0 0, .ref 219, .int 131 0, .int 0 0, .ref 226, .int 133 0, .int 0 0, .ref 233, .int 139 0, .int 0 0, .ref 240, .int 147 0, .int 0 0, .ref 247, .int 155 0, .int 0 0, .ref 254, .int 160 0, .int 0 0, .ref 261, .int 165 0, .int 0 0, .ref 268, .int 170 0, .int 0 0, .ref 275, .int 173 0, .int 0 0, .ref 282, .int 184 0, .int 0 0, .ref 289, .int 206 0, .int 0 0, .ref 345, .int 216 0, .int 0 0, .ref 352, .int 224 0, .int 0 0, .ref 359, .int 231 0, .int 0 0, .ref 366, .int 237 0, .int 0 0, .ref 373, .int 251 0, .int 0 0, .ref 380, .int 258 0, .int 0 0, .ref 387, .int 271 0, .int 0 0, .ref 394, .int 282 0, .int 0 0, .ref 401, .int 292 0, .int 0 0, .ref 408, .int 308 0, .int 0 0, .ref 415, .int 311 0, .int 0 0, .ref 422, .int 316 0, .int 0 0, .ref 429, .int 338 0, .int 0 0, .ref 436, .int 344 0, .int 0 0, .ref 443, .int 355 0, .int 0 0, .ref 450, .int 397 0, .int 0 0, .ref 544, .int 401 0, .int 0 0, .ref 551, .int 498 0, .int 0 0, .ref 661, .int 511 0, .int 0 0, .ref 703, .int 522 0, .int 0 0, .ref 736], #[]⟩
noncomputable abbrev o755 : Obj := ⟨.type "type", none, .cls ⟨Str.ofString "Operand", [.type "object"], [.ref 693, .type "object"], 692, Str.ofString "Operand", true, [], [.ref 728, .ref 769], false, none, false⟩, #[none, none, some (vS "Operand" 1104), some (vS "Operand" 1112), some (.builtin "object.__new__"), some (.bool true)]⟩
noncomputable abbrev o758 (P : Params) : Obj := ⟨.type "dict", none, .dict #[dE P "__module__" 1200 (vS "octetmint.operands" 1102), dE P "__qualname__" 1202 (vS "Rel" 1201), dE P "__firstlineno__" 1204 (.int 522 1203), dE P "__init__" 1214 (.ref 745), dE P "told" 1221 (.ref 752), dE P "symbol" 1228 (.ref 759), dE P "target" 1236 (.ref 766), dE P "__static_attributes__" 1239 (.ref 767)] 8, #[]⟩
noncomputable abbrev o760 : Obj := ⟨.none, none, .fields #[.int 524 0, .int 4 0, .ref 744, .int 529 0, .int 4 0, .ref 751, .int 532 0, .int 4 0, .ref 758, .int 535 0, .int 4 0, .ref 765], #[]⟩
noncomputable abbrev o761 : Obj := ⟨.type "code", none, .fields #[vS "Rel" 1195, vS "Rel" 1196, vS "/claim/cut.py" 1197, .int 522 0, .int 0 0, .int 0 0, .int 0 0, .int 0 0, .ref 734, .bool false, .int 181 0, .ref 735, .none, .none, .none, .none, .int 1198 0, .int 522 0, vS "/claim/cut.py" 1199], #[]⟩
noncomputable abbrev o762 : Obj := ⟨.type "frame", none, .plain, #[some (.ref 736), some (.ref 3), some (.ref 733), none, some (vS "octetmint.operands" 1102), none, some (.ref 0)]⟩
noncomputable abbrev o763 : Obj := ⟨.type "tuple", none, .seq #[vS "" 1205] 0, #[]⟩
noncomputable abbrev o766 : Obj := ⟨.type "tuple", none, .seq #[vS "self" 1209, vS "worth" 1210, vS "name" 1211] 0, #[]⟩
noncomputable abbrev o768 : Obj := ⟨.none, none, .func ⟨Str.ofString "__init__", Str.ofString "Rel.__init__", pa86, .stmts bo86, sc86, 0, [], .none, .none, .none, .none, none, .none, .none, 0⟩, #[]⟩
noncomputable abbrev o769 : Obj := ⟨.type "code", none, .fields #[vS "__init__" 1206, vS "Rel.__init__" 1207, vS "/claim/cut.py" 1208, .int 524 0, .int 3 0, .int 0 0, .int 0 0, .int 3 0, .ref 739, .bool true, .int 181 0, .ref 740, .none, .ref 741, .ref 742, .ref 743, .int 1212 0, .int 524 0, vS "/claim/cut.py" 1213], #[]⟩
noncomputable abbrev o770 : Obj := ⟨.type "function", none, .func ⟨Str.ofString "__init__", Str.ofString "Rel.__init__", pa86, .stmts bo86, sc86, 3, [], .ref 738, .none, .none, vS "octetmint.operands" 1102, none, .ref 744, .none, 0⟩, #[]⟩
noncomputable abbrev o773 : Obj := ⟨.type "tuple", none, .seq #[vS "self" 1218] 0, #[]⟩
noncomputable abbrev o775 : Obj := ⟨.none, none, .func ⟨Str.ofString "told", Str.ofString "Rel.told", pa87, .stmts bo87, sc87, 0, [], .none, .none, .none, .none, none, .none, .none, 0⟩, #[]⟩
noncomputable abbrev o776 : Obj := ⟨.type "code", none, .fields #[vS "told" 1215, vS "Rel.told" 1216, vS "/claim/cut.py" 1217, .int 529 0, .int 1 0, .int 0 0, .int 0 0, .int 3 0, .ref 746, .bool true, .int 181 0, .ref 747, .none, .ref 748, .ref 749, .ref 750, .int 1219 0, .int 529 0, vS "/claim/cut.py" 1220], #[]⟩
noncomputable abbrev o777 : Obj := ⟨.type "function", none, .func ⟨Str.ofString "told", Str.ofString "Rel.told", pa87, .stmts bo87, sc87, 3, [], .none, .none, .none, vS "octetmint.operands" 1102, none, .ref 751, .none, 0⟩, #[]⟩
noncomputable abbrev o780 : Obj := ⟨.type "tuple", none, .seq #[vS "self" 1225] 0, #[]⟩
noncomputable abbrev o782 : Obj := ⟨.none, none, .func ⟨Str.ofString "symbol", Str.ofString "Rel.symbol", pa88, .stmts bo88, sc88, 0, [], .none, .none, .none, .none, none, .none, .none, 0⟩, #[]⟩
noncomputable abbrev o783 : Obj := ⟨.type "code", none, .fields #[vS "symbol" 1222, vS "Rel.symbol" 1223, vS "/claim/cut.py" 1224, .int 532 0, .int 1 0, .int 0 0, .int 0 0, .int 3 0, .ref 753, .bool true, .int 181 0, .ref 754, .none, .ref 755, .ref 756, .ref 757, .int 1226 0, .int 532 0, vS "/claim/cut.py" 1227], #[]⟩
noncomputable abbrev o784 : Obj := ⟨.type "function", none, .func ⟨Str.ofString "symbol", Str.ofString "Rel.symbol", pa88, .stmts bo88, sc88, 3, [], .none, .none, .none, vS "octetmint.operands" 1102, none, .ref 758, .none, 0⟩, #[]⟩
noncomputable abbrev o787 : Obj := ⟨.type "tuple", none, .seq #[vS "self" 1232, vS "behind" 1233] 0, #[]⟩
noncomputable abbrev o789 : Obj := ⟨.none, none, .func ⟨Str.ofString "target", Str.ofString "Rel.target", pa89, .stmts bo89, sc89, 0, [], .none, .none, .none, .none, none, .none, .none, 0⟩, #[]⟩
noncomputable abbrev o790 : Obj := ⟨.type "code", none, .fields #[vS "target" 1229, vS "Rel.target" 1230, vS "/claim/cut.py" 1231, .int 535 0, .int 2 0, .int 0 0, .int 0 0, .int 3 0, .ref 760, .bool true, .int 181 0, .ref 761, .none, .ref 762, .ref 763, .ref 764, .int 1234 0, .int 535 0, vS "/claim/cut.py" 1235], #[]⟩
noncomputable abbrev o791 : Obj := ⟨.type "function", none, .func ⟨Str.ofString "target", Str.ofString "Rel.target", pa89, .stmts bo89, sc89, 3, [], .none, .none, .none, vS "octetmint.operands" 1102, none, .ref 765, .none, 0⟩, #[]⟩
noncomputable abbrev o792 : Obj := ⟨.type "tuple", none, .seq #[vS "name" 1237, vS "worth" 1238] 0, #[]⟩
noncomputable abbrev o793 (P : Params) : Obj := ⟨.type "dict", none, .dict #[dE P "__module__" 1200 (vS "octetmint.operands" 1102), dE P "__firstlineno__" 1204 (.int 522 1203), dE P "__init__" 1214 (.ref 745), dE P "told" 1221 (.ref 752), dE P "symbol" 1228 (.ref 759), dE P "target" 1236 (.ref 766), dE P "__static_attributes__" 1239 (.ref 767), dE P "__doc__" 1240 .none] 2, #[]⟩
noncomputable abbrev o794 : Obj := ⟨.type "type", none, .cls ⟨Str.ofString "Rel", [.ref 693], [.ref 769, .ref 693, .type "object"], 768, Str.ofString "Rel", true, [], [], false, none, false⟩, #[some (.ref 731), none, some (vS "Rel" 1193), some (vS "Rel" 1201), some (.builtin "object.__new__"), some (.bool true)]⟩
noncomputable abbrev o795 : Obj := ⟨.type "super", none, .fields #[.ref 769, .ref 769, .ref 769], #[]⟩
noncomputable abbrev o796 : Obj := ⟨.type "builtin_function_or_method", none, .fields #[.builtin "object.__init_subclass__", .ref 769], #[]⟩
noncomputable abbrev o797 (P : Params) : Obj := ⟨.type "dict", none, (.dict #[dE P "__name__" 165 (vS "octetmint.operands" 1102), dE P "__doc__" 166 .none, dE P "__package__" 167 .none, dE P "__loader__" 168 (.builtin "__main__.__loader__#opaque"), dE P "__spec__" 169 .none, dE P "__annotations__" 170 (.ref 6), dE P "__builtins__" 171 (.ref 4), dE P "__file__" 173 (vS "/claim/cut.py" 172), dE P "__cached__" 174 .none, dE P "_wall" 193 (.ref 21), dE P "MintError" 233 (.ref 46), dE P "OperandError" 249 (.ref 59), dE P "MachineError" 265 (.ref 71), dE P "mask" 272 (.ref 80), dE P "wrap" 280 (.ref 87), dE P "signed" 289 (.ref 94), dE P "extended" 298 (.ref 101), dE P "bit" 306 (.ref 108), dE P "ones" 316 (.ref 115), dE P "parity" 323 (.ref 122), dE P "CONDITIONS" 327 (vS "o no b ae e ne be a s ns p np l ge le g" 326), dE P "condition_names" 333 (.ref 129), dE P "CF" 337 (.int 0 336), dE P "PF" 339 (.int 2 338), dE P "AF" 341 (.int 4 340), dE P "ZF" 343 (.int 6 342), dE P "SF" 345 (.int 7 344), dE P "DF" 347 (.int 10 346), dE P "OF" 349 (.int 11 348), dE P "FLAG_NAMES" 351 (vS "cf pf af zf sf of df" 350), dE P "Flags" 451 (.ref 202), dE P "condition_number" 458 (.ref 213), dE P "holds_number" 468 (.ref 220), dE P "holds" 476 (.ref 227), dE P "szp" 486 (.ref 234), dE P "add_flags" 501 (.ref 241), dE P "sub_flags" 516 (.ref 248), dE P "logic_flags" 525 (.ref 255), dE P "inc_flags" 536 (.ref 262), dE P "dec_flags" 547 (.ref 269), dE P "neg_flags" 556 (.ref 276), dE P "condition_of" 566 (.ref 283), dE P "NAMES_8" 570 (vS "al cl dl bl spl bpl sil dil" 569), dE P "NAMES_16" 572 (vS "ax cx dx bx sp bp si di" 571), dE P "NAMES_32" 574 (vS "eax ecx edx ebx esp ebp esi edi" 573), dE P "NAMES_64" 576 (vS "rax rcx rdx rbx rsp rbp rsi rdi" 575), dE P "HIGH_NAMES" 578 (vS "ah ch dh bh" 577), dE P "Register" 648 (.ref 335), dE P "early_names" 655 (.ref 346), dE P "late_ending" 662 (.ref 353), dE P "gpr" 671 (.ref 360), dE P "high" 678 (.ref 367), dE P "AH_NUMBER" 682 (.int 4 681), dE P "combined" 693 (.ref 374), dE P "two_deed" 707 (.ref 381), dE P "one_deed" 719 (.ref 388), dE P "xadd_deed" 733 (.ref 395), dE P "cmpxchg_deed" 748 (.ref 402), dE P "flag_deed" 757 (.ref 409), dE P "set_deed" 766 (.ref 416), dE P "cmov_deed" 779 (.ref 423), dE P "arith_deed" 788 (.ref 430), dE P "ALIASES" 792 (vS "c:b nae:b nb:ae nc:ae z:e nz:ne na:be nbe:a pe:p po:np nge:l nl:ge ng:le nle:g" 791), dE P "OTHER_NAMES" 794 (vS "sal:shl loopz:loope loopnz:loopne repe:rep repz:rep repnz:repne" 793), dE P "pairs_of" 805 (.ref 437), dE P "canonical" 815 (.ref 444), dE P "STACK" 819 (.int 4 818), dE P "Memory" 940 (.ref 534), dE P "joined" 949 (.ref 545), dE P "State" 1101 (.ref 651), dE P "Operand" 1153 (.ref 693), dE P "Reg" 1192 (.ref 728), dE P "Rel" 1242 (.ref 769), dE P "Mem" 1318 (.ref 822)] 74), #[]⟩
noncomputable abbrev o798 : Obj := ⟨.none, none, .fields #[.int 1 0, .int 0 0, .ref 20, .int 5 0, .int 0 0, .ref 27, .int 16 0, .int 0 0, .ref 55, .int 18 0, .int 0 0, .ref 67, .int 20 0, .int 0 0, .ref 79, .int 22 0, .int 0 0, .ref 86, .int 24 0, .int 0 0, .ref 93, .int 29 0, .int 0 0, .ref 100, .int 31 0, .int 0 0, .ref 107, .int 33 0, .int 0 0, .ref 114, .int 40 0, .int 0 0, .ref 121, .int 44 0, .int 0 0, .ref 128, .int 55 0, .int 0 0, .ref 135, .int 108 0, .int 0 0, .ref 212, .int 112 0, .int 0 0, .ref 219, .int 131 0, .int 0 0, .ref 226, .int 133 0, .int 0 0, .ref 233, .int 139 0, .int 0 0, .ref 240, .int 147 0, .int 0 0, .ref 247, .int 155 0, .int 0 0, .ref 254, .int 160 0, .int 0 0, .ref 261, .int 165 0, .int 0 0, .ref 268, .int 170 0, .int 0 0, .ref 275, .int 173 0, .int 0 0, .ref 282, .int 184 0, .int 0 0, .ref 289, .int 206 0, .int 0 0, .ref 345, .int 216 0, .int 0 0, .ref 352, .int 224 0, .int 0 0, .ref 359, .int 231 0, .int 0 0, .ref 366, .int 237 0, .int 0 0, .ref 373, .int 251 0, .int 0 0, .ref 380, .int 258 0, .int 0 0, .ref 387, .int 271 0, .int 0 0, .ref 394, .int 282 0, .int 0 0, .ref 401, .int 292 0, .int 0 0, .ref 408, .int 308 0, .int 0 0, .ref 415, .int 311 0, .int 0 0, .ref 422, .int 316 0, .int 0 0, .ref 429, .int 338 0, .int 0 0, .ref 436, .int 344 0, .int 0 0, .ref 443, .int 355 0, .int 0 0, .ref 450, .int 397 0, .int 0 0, .ref 544, .int 401 0, .int 0 0, .ref 551, .int 498 0, .int 0 0, .ref 661, .int 511 0, .int 0 0, .ref 703, .int 522 0, .int 0 0, .ref 736, .int 537 0, .int 0 0, .ref 777], #[]⟩
noncomputable abbrev o799 : Obj := ⟨.type "type", none, .cls ⟨Str.ofString "Operand", [.type "object"], [.ref 693, .type "object"], 692, Str.ofString "Operand", true, [], [.ref 728, .ref 769, .ref 822], false, none, false⟩, #[none, none, some (vS "Operand" 1104), some (vS "Operand" 1112), some (.builtin "object.__new__"), some (.bool true)]⟩
noncomputable abbrev o802 (P : Params) : Obj := ⟨.type "dict", none, .dict #[dE P "__module__" 1250 (vS "octetmint.operands" 1102), dE P "__qualname__" 1252 (vS "Mem" 1251), dE P "__firstlineno__" 1254 (.int 537 1253), dE P "__init__" 1271 (.ref 786), dE P "told" 1280 (.ref 793), dE P "symbol" 1287 (.ref 800), dE P "registers" 1293 (.ref 805), dE P "is_rip" 1300 (.ref 812), dE P "is_absolute" 1307 (.ref 819), dE P "__static_attributes__" 1315 (.ref 820)] 10, #[]⟩
noncomputable abbrev o804 : Obj := ⟨.none, none, .fields #[.int 539 0, .int 4 0, .ref 785, .int 549 0, .int 4 0, .ref 792, .int 554 0, .int 4 0, .ref 799, .int 557 0, .int 4 0, .ref 804, .int 560 0, .int 4 0, .ref 811, .int 563 0, .int 4 0, .ref 818], #[]⟩
noncomputable abbrev o805 : Obj := ⟨.type "code", none, .fields #[vS "Mem" 1245, vS "Mem" 1246, vS "/claim/cut.py" 1247, .int 537 0, .int 0 0, .int 0 0, .int 0 0, .int 0 0, .ref 775, .bool false, .int 181 0, .ref 776, .none, .none, .none, .none, .int 1248 0, .int 537 0, vS "/claim/cut.py" 1249], #[]⟩
noncomputable abbrev o806 : Obj := ⟨.type "frame", none, .plain, #[some (.ref 777), some (.ref 3), some (.ref 774), none, some (vS "octetmint.operands" 1102), none, some (.ref 0)]⟩
noncomputable abbrev o807 : Obj := ⟨.type "tuple", none, .seq #[.int 0 1255, vS "" 1256, vS "" 1257] 0, #[]⟩
noncomputable abbrev o810 : Obj := ⟨.type "tuple", none, .seq #[vS "self" 1261, vS "base" 1262, vS "index" 1263, vS "scale" 1264, vS "worth" 1265, vS "size" 1266, vS "segment" 1267, vS "name" 1268] 0, #[]⟩
noncomputable abbrev o812 : Obj := ⟨.none, none, .func ⟨Str.ofString "__init__", Str.ofString "Mem.__init__", pa90, .stmts bo90, sc90, 0, [], .none, .none, .none, .none, none, .none, .none, 0⟩, #[]⟩
noncomputable abbrev o813 : Obj := ⟨.type "code", none, .fields #[vS "__init__" 1258, vS "Mem.__init__" 1259, vS "/claim/cut.py" 1260, .int 539 0, .int 8 0, .int 0 0, .int 0 0, .int 3 0, .ref 780, .bool true, .int 181 0, .ref 781, .none, .ref 782, .ref 783, .ref 784, .int 1269 0, .int 539 0, vS "/claim/cut.py" 1270], #[]⟩
noncomputable abbrev o814 : Obj := ⟨.type "function", none, .func ⟨Str.ofString "__init__", Str.ofString "Mem.__init__", pa90, .stmts bo90, sc90, 3, [], .ref 779, .none, .none, vS "octetmint.operands" 1102, none, .ref 785, .none, 0⟩, #[]⟩
noncomputable abbrev o817 : Obj := ⟨.type "tuple", none, .seq #[vS "self" 1275, vS "base" 1276, vS "index" 1277] 0, #[]⟩
noncomputable abbrev o819 : Obj := ⟨.none, none, .func ⟨Str.ofString "told", Str.ofString "Mem.told", pa91, .stmts bo91, sc91, 0, [], .none, .none, .none, .none, none, .none, .none, 0⟩, #[]⟩
noncomputable abbrev o820 : Obj := ⟨.type "code", none, .fields #[vS "told" 1272, vS "Mem.told" 1273, vS "/claim/cut.py" 1274, .int 549 0, .int 1 0, .int 0 0, .int 0 0, .int 3 0, .ref 787, .bool true, .int 181 0, .ref 788, .none, .ref 789, .ref 790, .ref 791, .int 1278 0, .int 549 0, vS "/claim/cut.py" 1279], #[]⟩
noncomputable abbrev o821 : Obj := ⟨.type "function", none, .func ⟨Str.ofString "told", Str.ofString "Mem.told", pa91, .stmts bo91, sc91, 3, [], .none, .none, .none, vS "octetmint.operands" 1102, none, .ref 792, .none, 0⟩, #[]⟩
noncomputable abbrev o824 : Obj := ⟨.type "tuple", none, .seq #[vS "self" 1284] 0, #[]⟩
noncomputable abbrev o826 : Obj := ⟨.none, none, .func ⟨Str.ofString "symbol", Str.ofString "Mem.symbol", pa92, .stmts bo92, sc92, 0, [], .none, .none, .none, .none, none, .none, .none, 0⟩, #[]⟩
noncomputable abbrev o827 : Obj := ⟨.type "code", none, .fields #[vS "symbol" 1281, vS "Mem.symbol" 1282, vS "/claim/cut.py" 1283, .int 554 0, .int 1 0, .int 0 0, .int 0 0, .int 3 0, .ref 794, .bool true, .int 181 0, .ref 795, .none, .ref 796, .ref 797, .ref 798, .int 1285 0, .int 554 0, vS "/claim/cut.py" 1286], #[]⟩
noncomputable abbrev o828 : Obj := ⟨.type "function", none, .func ⟨Str.ofString "symbol", Str.ofString "Mem.symbol", pa92, .stmts bo92, sc92, 3, [], .none, .none, .none, vS "octetmint.operands" 1102, none, .ref 799, .none, 0⟩, #[]⟩
noncomputable abbrev o831 : Obj := ⟨.none, none, .func ⟨Str.ofString "registers", Str.ofString "Mem.registers", pa93, .stmts bo93, sc93, 0, [], .none, .none, .none, .none, none, .none, .none, 0⟩, #[]⟩
noncomputable abbrev o832 : Obj := ⟨.type "code", none, .fields #[vS "registers" 1288, vS "Mem.registers" 1289, vS "/claim/cut.py" 1290, .int 557 0, .int 1 0, .int 0 0, .int 0 0, .int 3 0, .ref 801, .bool true, .int 181 0, .ref 802, .none, .none, .none, .ref 803, .int 1291 0, .int 557 0, vS "/claim/cut.py" 1292], #[]⟩
noncomputable abbrev o833 : Obj := ⟨.type "function", none, .func ⟨Str.ofString "registers", Str.ofString "Mem.registers", pa93, .stmts bo93, sc93, 3, [], .none, .none, .none, vS "octetmint.operands" 1102, none, .ref 804, .none, 0⟩, #[]⟩
noncomputable abbrev o836 : Obj := ⟨.type "tuple", none, .seq #[vS "self" 1297] 0, #[]⟩
noncomputable abbrev o838 : Obj := ⟨.none, none, .func ⟨Str.ofString "is_rip", Str.ofString "Mem.is_rip", pa94, .stmts bo94, sc94, 0, [], .none, .none, .none, .none, none, .none, .none, 0⟩, #[]⟩
noncomputable abbrev o839 : Obj := ⟨.type "code", none, .fields #[vS "is_rip" 1294, vS "Mem.is_rip" 1295, vS "/claim/cut.py" 1296, .int 560 0, .int 1 0, .int 0 0, .int 0 0, .int 3 0, .ref 806, .bool true, .int 181 0, .ref 807, .none, .ref 808, .ref 809, .ref 810, .int 1298 0, .int 560 0, vS "/claim/cut.py" 1299], #[]⟩
noncomputable abbrev o840 : Obj := ⟨.type "function", none, .func ⟨Str.ofString "is_rip", Str.ofString "Mem.is_rip", pa94, .stmts bo94, sc94, 3, [], .none, .none, .none, vS "octetmint.operands" 1102, none, .ref 811, .none, 0⟩, #[]⟩
noncomputable abbrev o843 : Obj := ⟨.type "tuple", none, .seq #[vS "self" 1304] 0, #[]⟩
noncomputable abbrev o845 : Obj := ⟨.none, none, .func ⟨Str.ofString "is_absolute", Str.ofString "Mem.is_absolute", pa95, .stmts bo95, sc95, 0, [], .none, .none, .none, .none, none, .none, .none, 0⟩, #[]⟩
noncomputable abbrev o846 : Obj := ⟨.type "code", none, .fields #[vS "is_absolute" 1301, vS "Mem.is_absolute" 1302, vS "/claim/cut.py" 1303, .int 563 0, .int 1 0, .int 0 0, .int 0 0, .int 3 0, .ref 813, .bool true, .int 181 0, .ref 814, .none, .ref 815, .ref 816, .ref 817, .int 1305 0, .int 563 0, vS "/claim/cut.py" 1306], #[]⟩
noncomputable abbrev o847 : Obj := ⟨.type "function", none, .func ⟨Str.ofString "is_absolute", Str.ofString "Mem.is_absolute", pa95, .stmts bo95, sc95, 3, [], .none, .none, .none, vS "octetmint.operands" 1102, none, .ref 818, .none, 0⟩, #[]⟩
noncomputable abbrev o848 : Obj := ⟨.type "tuple", none, .seq #[vS "base" 1308, vS "index" 1309, vS "name" 1310, vS "scale" 1311, vS "segment" 1312, vS "size" 1313, vS "worth" 1314] 0, #[]⟩
noncomputable abbrev o849 (P : Params) : Obj := ⟨.type "dict", none, .dict #[dE P "__module__" 1250 (vS "octetmint.operands" 1102), dE P "__firstlineno__" 1254 (.int 537 1253), dE P "__init__" 1271 (.ref 786), dE P "told" 1280 (.ref 793), dE P "symbol" 1287 (.ref 800), dE P "registers" 1293 (.ref 805), dE P "is_rip" 1300 (.ref 812), dE P "is_absolute" 1307 (.ref 819), dE P "__static_attributes__" 1315 (.ref 820), dE P "__doc__" 1316 .none] 2, #[]⟩
noncomputable abbrev o850 : Obj := ⟨.type "type", none, .cls ⟨Str.ofString "Mem", [.ref 693], [.ref 822, .ref 693, .type "object"], 821, Str.ofString "Mem", true, [], [], false, none, false⟩, #[some (.ref 772), none, some (vS "Mem" 1243), some (vS "Mem" 1251), some (.builtin "object.__new__"), some (.bool true)]⟩
noncomputable abbrev o851 : Obj := ⟨.type "super", none, .fields #[.ref 822, .ref 822, .ref 822], #[]⟩
noncomputable abbrev o852 : Obj := ⟨.type "builtin_function_or_method", none, .fields #[.builtin "object.__init_subclass__", .ref 822], #[]⟩
noncomputable abbrev o853 (P : Params) : Obj := ⟨.type "dict", none, (.dict #[dE P "__name__" 165 (vS "octetmint.rotates" 1392), dE P "__doc__" 166 .none, dE P "__package__" 167 .none, dE P "__loader__" 168 (.builtin "__main__.__loader__#opaque"), dE P "__spec__" 169 .none, dE P "__annotations__" 170 (.ref 6), dE P "__builtins__" 171 (.ref 4), dE P "__file__" 173 (vS "/claim/cut.py" 172), dE P "__cached__" 174 .none, dE P "_wall" 193 (.ref 21), dE P "MintError" 233 (.ref 46), dE P "OperandError" 249 (.ref 59), dE P "MachineError" 265 (.ref 71), dE P "mask" 272 (.ref 80), dE P "wrap" 280 (.ref 87), dE P "signed" 289 (.ref 94), dE P "extended" 298 (.ref 101), dE P "bit" 306 (.ref 108), dE P "ones" 316 (.ref 115), dE P "parity" 323 (.ref 122), dE P "CONDITIONS" 327 (vS "o no b ae e ne be a s ns p np l ge le g" 326), dE P "condition_names" 333 (.ref 129), dE P "CF" 337 (.int 0 336), dE P "PF" 339 (.int 2 338), dE P "AF" 341 (.int 4 340), dE P "ZF" 343 (.int 6 342), dE P "SF" 345 (.int 7 344), dE P "DF" 347 (.int 10 346), dE P "OF" 349 (.int 11 348), dE P "FLAG_NAMES" 351 (vS "cf pf af zf sf of df" 350), dE P "Flags" 451 (.ref 202), dE P "condition_number" 458 (.ref 213), dE P "holds_number" 468 (.ref 220), dE P "holds" 476 (.ref 227), dE P "szp" 486 (.ref 234), dE P "add_flags" 501 (.ref 241), dE P "sub_flags" 516 (.ref 248), dE P "logic_flags" 525 (.ref 255), dE P "inc_flags" 536 (.ref 262), dE P "dec_flags" 547 (.ref 269), dE P "neg_flags" 556 (.ref 276), dE P "condition_of" 566 (.ref 283), dE P "NAMES_8" 570 (vS "al cl dl bl spl bpl sil dil" 569), dE P "NAMES_16" 572 (vS "ax cx dx bx sp bp si di" 571), dE P "NAMES_32" 574 (vS "eax ecx edx ebx esp ebp esi edi" 573), dE P "NAMES_64" 576 (vS "rax rcx rdx rbx rsp rbp rsi rdi" 575), dE P "HIGH_NAMES" 578 (vS "ah ch dh bh" 577), dE P "Register" 648 (.ref 335), dE P "early_names" 655 (.ref 346), dE P "late_ending" 662 (.ref 353), dE P "gpr" 671 (.ref 360), dE P "high" 678 (.ref 367), dE P "AH_NUMBER" 682 (.int 4 681), dE P "combined" 693 (.ref 374), dE P "two_deed" 707 (.ref 381), dE P "one_deed" 719 (.ref 388), dE P "xadd_deed" 733 (.ref 395), dE P "cmpxchg_deed" 748 (.ref 402), dE P "flag_deed" 757 (.ref 409), dE P "set_deed" 766 (.ref 416), dE P "cmov_deed" 779 (.ref 423), dE P "arith_deed" 788 (.ref 430), dE P "ALIASES" 792 (vS "c:b nae:b nb:ae nc:ae z:e nz:ne na:be nbe:a pe:p po:np nge:l nl:ge ng:le nle:g" 791), dE P "OTHER_NAMES" 794 (vS "sal:shl loopz:loope loopnz:loopne repe:rep repz:rep repnz:repne" 793), dE P "pairs_of" 805 (.ref 437), dE P "canonical" 815 (.ref 444), dE P "STACK" 819 (.int 4 818), dE P "Memory" 940 (.ref 534), dE P "joined" 949 (.ref 545), dE P "State" 1101 (.ref 651), dE P "Operand" 1153 (.ref 693), dE P "Reg" 1192 (.ref 728), dE P "Rel" 1242 (.ref 769), dE P "Mem" 1318 (.ref 822), dE P "Instruction" 1391 (.ref 875)] 75), #[]⟩
noncomputable abbrev o854 : Obj := ⟨.none, none, .fields #[.int 1 0, .int 0 0, .ref 20, .int 5 0, .int 0 0, .ref 27, .int 16 0, .int 0 0, .ref 55, .int 18 0, .int 0 0, .ref 67, .int 20 0, .int 0 0, .ref 79, .int 22 0, .int 0 0, .ref 86, .int 24 0, .int 0 0, .ref 93, .int 29 0, .int 0 0, .ref 100, .int 31 0, .int 0 0, .ref 107, .int 33 0, .int 0 0, .ref 114, .int 40 0, .int 0 0, .ref 121, .int 44 0, .int 0 0, .ref 128, .int 55 0, .int 0 0, .ref 135, .int 108 0, .int 0 0, .ref 212, .int 112 0, .int 0 0, .ref 219, .int 131 0, .int 0 0, .ref 226, .int 133 0, .int 0 0, .ref 233, .int 139 0, .int 0 0, .ref 240, .int 147 0, .int 0 0, .ref 247, .int 155 0, .int 0 0, .ref 254, .int 160 0, .int 0 0, .ref 261, .int 165 0, .int 0 0, .ref 268, .int 170 0, .int 0 0, .ref 275, .int 173 0, .int 0 0, .ref 282, .int 184 0, .int 0 0, .ref 289, .int 206 0, .int 0 0, .ref 345, .int 216 0, .int 0 0, .ref 352, .int 224 0, .int 0 0, .ref 359, .int 231 0, .int 0 0, .ref 366, .int 237 0, .int 0 0, .ref 373, .int 251 0, .int 0 0, .ref 380, .int 258 0, .int 0 0, .ref 387, .int 271 0, .int 0 0, .ref 394, .int 282 0, .int 0 0, .ref 401, .int 292 0, .int 0 0, .ref 408, .int 308 0, .int 0 0, .ref 415, .int 311 0, .int 0 0, .ref 422, .int 316 0, .int 0 0, .ref 429, .int 338 0, .int 0 0, .ref 436, .int 344 0, .int 0 0, .ref 443, .int 355 0, .int 0 0, .ref 450, .int 397 0, .int 0 0, .ref 544, .int 401 0, .int 0 0, .ref 551, .int 498 0, .int 0 0, .ref 661, .int 511 0, .int 0 0, .ref 703, .int 522 0, .int 0 0, .ref 736, .int 537 0, .int 0 0, .ref 777, .int 565 0, .int 0 0, .ref 830], #[]⟩
noncomputable abbrev o857 (P : Params) : Obj := ⟨.type "dict", none, .dict #[dE P "__module__" 1326 (vS "octetmint.operands" 1102), dE P "__qualname__" 1328 (vS "Instruction" 1327), dE P "__firstlineno__" 1330 (.int 565 1329), dE P "__init__" 1341 (.ref 839), dE P "told" 1347 (.ref 844), dE P "memory_at" 1356 (.ref 851), dE P "memory" 1364 (.ref 858), dE P "symbols" 1371 (.ref 865), dE P "replaced" 1380 (.ref 872), dE P "__static_attributes__" 1384 (.ref 873)] 10, #[]⟩
noncomputable abbrev o859 : Obj := ⟨.none, none, .fields #[.int 567 0, .int 4 0, .ref 838, .int 572 0, .int 4 0, .ref 843, .int 575 0, .int 4 0, .ref 850, .int 581 0, .int 4 0, .ref 857, .int 585 0, .int 4 0, .ref 864, .int 588 0, .int 4 0, .ref 871], #[]⟩
noncomputable abbrev o860 : Obj := ⟨.type "code", none, .fields #[vS "Instruction" 1321, vS "Instruction" 1322, vS "/claim/cut.py" 1323, .int 565 0, .int 0 0, .int 0 0, .int 0 0, .int 0 0, .ref 828, .bool false, .int 181 0, .ref 829, .none, .none, .none, .none, .int 1324 0, .int 565 0, vS "/claim/cut.py" 1325], #[]⟩
noncomputable abbrev o861 : Obj := ⟨.type "frame", none, .plain, #[some (.ref 830), some (.ref 3), some (.ref 827), none, some (vS "octetmint.operands" 1102), none, some (.ref 0)]⟩
noncomputable abbrev o862 : Obj := ⟨.type "tuple", none, .seq #[vS "" 1331] 0, #[]⟩
noncomputable abbrev o865 : Obj := ⟨.type "tuple", none, .seq #[vS "self" 1335, vS "name" 1336, vS "operands" 1337, vS "prefix" 1338] 0, #[]⟩
noncomputable abbrev o867 : Obj := ⟨.none, none, .func ⟨Str.ofString "__init__", Str.ofString "Instruction.__init__", pa96, .stmts bo96, sc96, 0, [], .none, .none, .none, .none, none, .none, .none, 0⟩, #[]⟩
noncomputable abbrev o868 : Obj := ⟨.type "code", none, .fields #[vS "__init__" 1332, vS "Instruction.__init__" 1333, vS "/claim/cut.py" 1334, .int 567 0, .int 4 0, .int 0 0, .int 0 0, .int 3 0, .ref 833, .bool true, .int 181 0, .ref 834, .none, .ref 835, .ref 836, .ref 837, .int 1339 0, .int 567 0, vS "/claim/cut.py" 1340], #[]⟩
noncomputable abbrev o869 : Obj := ⟨.type "function", none, .func ⟨Str.ofString "__init__", Str.ofString "Instruction.__init__", pa96, .stmts bo96, sc96, 3, [], .ref 832, .none, .none, vS "octetmint.operands" 1102, none, .ref 838, .none, 0⟩, #[]⟩
noncomputable abbrev o872 : Obj := ⟨.none, none, .func ⟨Str.ofString "told", Str.ofString "Instruction.told", pa97, .stmts bo97, sc97, 0, [], .none, .none, .none, .none, none, .none, .none, 0⟩, #[]⟩
noncomputable abbrev o873 : Obj := ⟨.type "code", none, .fields #[vS "told" 1342, vS "Instruction.told" 1343, vS "/claim/cut.py" 1344, .int 572 0, .int 1 0, .int 0 0, .int 0 0, .int 3 0, .ref 840, .bool true, .int 181 0, .ref 841, .none, .none, .none, .ref 842, .int 1345 0, .int 572 0, vS "/claim/cut.py" 1346], #[]⟩
noncomputable abbrev o874 : Obj := ⟨.type "function", none, .func ⟨Str.ofString "told", Str.ofString "Instruction.told", pa97, .stmts bo97, sc97, 3, [], .none, .none, .none, vS "octetmint.operands" 1102, none, .ref 843, .none, 0⟩, #[]⟩
noncomputable abbrev o877 : Obj := ⟨.type "tuple", none, .seq #[vS "self" 1351, vS "at" 1352, vS "operand" 1353] 0, #[]⟩
noncomputable abbrev o879 : Obj := ⟨.none, none, .func ⟨Str.ofString "memory_at", Str.ofString "Instruction.memory_at", pa98, .stmts bo98, sc98, 0, [], .none, .none, .none, .none, none, .none, .none, 0⟩, #[]⟩
noncomputable abbrev o880 : Obj := ⟨.type "code", none, .fields #[vS "memory_at" 1348, vS "Instruction.memory_at" 1349, vS "/claim/cut.py" 1350, .int 575 0, .int 1 0, .int 0 0, .int 0 0, .int 3 0, .ref 845, .bool true, .int 181 0, .ref 846, .none, .ref 847, .ref 848, .ref 849, .int 1354 0, .int 575 0, vS "/claim/cut.py" 1355], #[]⟩
noncomputable abbrev o881 : Obj := ⟨.type "function", none, .func ⟨Str.ofString "memory_at", Str.ofString "Instruction.memory_at", pa98, .stmts bo98, sc98, 3, [], .none, .none, .none, vS "octetmint.operands" 1102, none, .ref 850, .none, 0⟩, #[]⟩
noncomputable abbrev o884 : Obj := ⟨.type "tuple", none, .seq #[vS "self" 1360, vS "at" 1361] 0, #[]⟩
noncomputable abbrev o886 : Obj := ⟨.none, none, .func ⟨Str.ofString "memory", Str.ofString "Instruction.memory", pa99, .stmts bo99, sc99, 0, [], .none, .none, .none, .none, none, .none, .none, 0⟩, #[]⟩
noncomputable abbrev o887 : Obj := ⟨.type "code", none, .fields #[vS "memory" 1357, vS "Instruction.memory" 1358, vS "/claim/cut.py" 1359, .int 581 0, .int 1 0, .int 0 0, .int 0 0, .int 3 0, .ref 852, .bool true, .int 181 0, .ref 853, .none, .ref 854, .ref 855, .ref 856, .int 1362 0, .int 581 0, vS "/claim/cut.py" 1363], #[]⟩
noncomputable abbrev o888 : Obj := ⟨.type "function", none, .func ⟨Str.ofString "memory", Str.ofString "Instruction.memory", pa99, .stmts bo99, sc99, 3, [], .none, .none, .none, vS "octetmint.operands" 1102, none, .ref 857, .none, 0⟩, #[]⟩
noncomputable abbrev o891 : Obj := ⟨.type "tuple", none, .seq #[vS "self" 1368] 0, #[]⟩
noncomputable abbrev o893 : Obj := ⟨.none, none, .func ⟨Str.ofString "symbols", Str.ofString "Instruction.symbols", pa100, .stmts bo100, sc100, 0, [], .none, .none, .none, .none, none, .none, .none, 0⟩, #[]⟩
noncomputable abbrev o894 : Obj := ⟨.type "code", none, .fields #[vS "symbols" 1365, vS "Instruction.symbols" 1366, vS "/claim/cut.py" 1367, .int 585 0, .int 1 0, .int 0 0, .int 0 0, .int 3 0, .ref 859, .bool true, .int 181 0, .ref 860, .none, .ref 861, .ref 862, .ref 863, .int 1369 0, .int 585 0, vS "/claim/cut.py" 1370], #[]⟩
noncomputable abbrev o895 : Obj := ⟨.type "function", none, .func ⟨Str.ofString "symbols", Str.ofString "Instruction.symbols", pa100, .stmts bo100, sc100, 3, [], .none, .none, .none, vS "octetmint.operands" 1102, none, .ref 864, .none, 0⟩, #[]⟩
noncomputable abbrev o898 : Obj := ⟨.type "tuple", none, .seq #[vS "self" 1375, vS "at" 1376, vS "operand" 1377] 0, #[]⟩
noncomputable abbrev o900 : Obj := ⟨.none, none, .func ⟨Str.ofString "replaced", Str.ofString "Instruction.replaced", pa101, .stmts bo101, sc101, 0, [], .none, .none, .none, .none, none, .none, .none, 0⟩, #[]⟩
noncomputable abbrev o901 : Obj := ⟨.type "code", none, .fields #[vS "replaced" 1372, vS "Instruction.replaced" 1373, vS "/claim/cut.py" 1374, .int 588 0, .int 3 0, .int 0 0, .int 0 0, .int 3 0, .ref 866, .bool true, .int 181 0, .ref 867, .none, .ref 868, .ref 869, .ref 870, .int 1378 0, .int 588 0, vS "/claim/cut.py" 1379], #[]⟩
noncomputable abbrev o902 : Obj := ⟨.type "function", none, .func ⟨Str.ofString "replaced", Str.ofString "Instruction.replaced", pa101, .stmts bo101, sc101, 3, [], .none, .none, .none, vS "octetmint.operands" 1102, none, .ref 871, .none, 0⟩, #[]⟩
noncomputable abbrev o903 : Obj := ⟨.type "tuple", none, .seq #[vS "name" 1381, vS "operands" 1382, vS "prefix" 1383] 0, #[]⟩
noncomputable abbrev o904 (P : Params) : Obj := ⟨.type "dict", none, .dict #[dE P "__module__" 1326 (vS "octetmint.operands" 1102), dE P "__firstlineno__" 1330 (.int 565 1329), dE P "__init__" 1341 (.ref 839), dE P "told" 1347 (.ref 844), dE P "memory_at" 1356 (.ref 851), dE P "memory" 1364 (.ref 858), dE P "symbols" 1371 (.ref 865), dE P "replaced" 1380 (.ref 872), dE P "__static_attributes__" 1384 (.ref 873), dE P "__dict__" 1386 (.ref 876), dE P "__weakref__" 1388 (.ref 877), dE P "__doc__" 1389 .none] 4, #[]⟩
noncomputable abbrev o905 : Obj := ⟨.type "type", none, .cls ⟨Str.ofString "Instruction", [.type "object"], [.ref 875, .type "object"], 874, Str.ofString "Instruction", true, [], [], false, none, false⟩, #[none, none, some (vS "Instruction" 1319), some (vS "Instruction" 1327), some (.builtin "object.__new__"), some (.bool true)]⟩
noncomputable abbrev o906 : Obj := ⟨.type "getset_descriptor", none, .fields #[vS "__dict__" 1385, .ref 875, .builtin "function.__dict__", .builtin "function.__dict__#set"], #[]⟩
noncomputable abbrev o907 : Obj := ⟨.type "getset_descriptor", none, .fields #[vS "__weakref__" 1387, .ref 875, .builtin "ExceptionGroup.__weakref__", .none], #[]⟩
noncomputable abbrev o908 : Obj := ⟨.type "super", none, .fields #[.ref 875, .ref 875, .ref 875], #[]⟩
noncomputable abbrev o909 : Obj := ⟨.type "builtin_function_or_method", none, .fields #[.builtin "object.__init_subclass__", .ref 875], #[]⟩
noncomputable abbrev o910 (P : Params) : Obj := ⟨.type "dict", none, (.dict #[dE P "__name__" 165 (vS "law_nn0070_01" 1446), dE P "__doc__" 166 .none, dE P "__package__" 167 .none, dE P "__loader__" 168 (.builtin "__main__.__loader__#opaque"), dE P "__spec__" 169 .none, dE P "__annotations__" 170 (.ref 6), dE P "__builtins__" 171 (.ref 4), dE P "__file__" 173 (vS "/claim/cut.py" 172), dE P "__cached__" 174 .none, dE P "_wall" 193 (.ref 21), dE P "MintError" 233 (.ref 46), dE P "OperandError" 249 (.ref 59), dE P "MachineError" 265 (.ref 71), dE P "mask" 272 (.ref 80), dE P "wrap" 280 (.ref 87), dE P "signed" 289 (.ref 94), dE P "extended" 298 (.ref 101), dE P "bit" 306 (.ref 108), dE P "ones" 316 (.ref 115), dE P "parity" 323 (.ref 122), dE P "CONDITIONS" 327 (vS "o no b ae e ne be a s ns p np l ge le g" 326), dE P "condition_names" 333 (.ref 129), dE P "CF" 337 (.int 0 336), dE P "PF" 339 (.int 2 338), dE P "AF" 341 (.int 4 340), dE P "ZF" 343 (.int 6 342), dE P "SF" 345 (.int 7 344), dE P "DF" 347 (.int 10 346), dE P "OF" 349 (.int 11 348), dE P "FLAG_NAMES" 351 (vS "cf pf af zf sf of df" 350), dE P "Flags" 451 (.ref 202), dE P "condition_number" 458 (.ref 213), dE P "holds_number" 468 (.ref 220), dE P "holds" 476 (.ref 227), dE P "szp" 486 (.ref 234), dE P "add_flags" 501 (.ref 241), dE P "sub_flags" 516 (.ref 248), dE P "logic_flags" 525 (.ref 255), dE P "inc_flags" 536 (.ref 262), dE P "dec_flags" 547 (.ref 269), dE P "neg_flags" 556 (.ref 276), dE P "condition_of" 566 (.ref 283), dE P "NAMES_8" 570 (vS "al cl dl bl spl bpl sil dil" 569), dE P "NAMES_16" 572 (vS "ax cx dx bx sp bp si di" 571), dE P "NAMES_32" 574 (vS "eax ecx edx ebx esp ebp esi edi" 573), dE P "NAMES_64" 576 (vS "rax rcx rdx rbx rsp rbp rsi rdi" 575), dE P "HIGH_NAMES" 578 (vS "ah ch dh bh" 577), dE P "Register" 648 (.ref 335), dE P "early_names" 655 (.ref 346), dE P "late_ending" 662 (.ref 353), dE P "gpr" 671 (.ref 360), dE P "high" 678 (.ref 367), dE P "AH_NUMBER" 682 (.int 4 681), dE P "combined" 693 (.ref 374), dE P "two_deed" 707 (.ref 381), dE P "one_deed" 719 (.ref 388), dE P "xadd_deed" 733 (.ref 395), dE P "cmpxchg_deed" 748 (.ref 402), dE P "flag_deed" 757 (.ref 409), dE P "set_deed" 766 (.ref 416), dE P "cmov_deed" 779 (.ref 423), dE P "arith_deed" 788 (.ref 430), dE P "ALIASES" 792 (vS "c:b nae:b nb:ae nc:ae z:e nz:ne na:be nbe:a pe:p po:np nge:l nl:ge ng:le nle:g" 791), dE P "OTHER_NAMES" 794 (vS "sal:shl loopz:loope loopnz:loopne repe:rep repz:rep repnz:repne" 793), dE P "pairs_of" 805 (.ref 437), dE P "canonical" 815 (.ref 444), dE P "STACK" 819 (.int 4 818), dE P "Memory" 940 (.ref 534), dE P "joined" 949 (.ref 545), dE P "State" 1101 (.ref 651), dE P "Operand" 1153 (.ref 693), dE P "Reg" 1192 (.ref 728), dE P "Rel" 1242 (.ref 769), dE P "Mem" 1318 (.ref 822), dE P "Instruction" 1391 (.ref 875), dE P "widening_deed" 1406 (.ref 886), dE P "RCX" 1410 (.int 1 1409), dE P "RSP" 1412 (.int 4 1411), dE P "target_of" 1420 (.ref 893), dE P "count_down" 1427 (.ref 900), dE P "is_taken" 1435 (.ref 907), dE P "jump_deed" 1445 (.ref 914), dE P "_law_names" 1449 (vS "o no b,c,nae ae,nc,nb e,z ne,nz be,na a,nbe s ns p,pe np,po l,nge ge,nl le,ng g,nle" 1448), dE P "_law_widenings" 1451 (vS "movzx:8:16 movzx:8:32 movzx:8:64 movzx:16:32 movzx:16:64 movsx:8:16 movsx:8:32 movsx:8:64 movsx:16:32 movsx:16:64 movsxd:32:64" 1450), dE P "_law_cell" 1459 (.ref 921), dE P "_law_near" 1467 (.ref 928), dE P "_law_truth" 1484 (.ref 935), dE P "_law_set" 1493 (.ref 942), dE P "_law_put_octet" 1504 (.ref 949)] 89), #[]⟩
noncomputable abbrev o911 : Obj := ⟨.none, none, .fields #[.int 1 0, .int 0 0, .ref 20, .int 5 0, .int 0 0, .ref 27, .int 16 0, .int 0 0, .ref 55, .int 18 0, .int 0 0, .ref 67, .int 20 0, .int 0 0, .ref 79, .int 22 0, .int 0 0, .ref 86, .int 24 0, .int 0 0, .ref 93, .int 29 0, .int 0 0, .ref 100, .int 31 0, .int 0 0, .ref 107, .int 33 0, .int 0 0, .ref 114, .int 40 0, .int 0 0, .ref 121, .int 44 0, .int 0 0, .ref 128, .int 55 0, .int 0 0, .ref 135, .int 108 0, .int 0 0, .ref 212, .int 112 0, .int 0 0, .ref 219, .int 131 0, .int 0 0, .ref 226, .int 133 0, .int 0 0, .ref 233, .int 139 0, .int 0 0, .ref 240, .int 147 0, .int 0 0, .ref 247, .int 155 0, .int 0 0, .ref 254, .int 160 0, .int 0 0, .ref 261, .int 165 0, .int 0 0, .ref 268, .int 170 0, .int 0 0, .ref 275, .int 173 0, .int 0 0, .ref 282, .int 184 0, .int 0 0, .ref 289, .int 206 0, .int 0 0, .ref 345, .int 216 0, .int 0 0, .ref 352, .int 224 0, .int 0 0, .ref 359, .int 231 0, .int 0 0, .ref 366, .int 237 0, .int 0 0, .ref 373, .int 251 0, .int 0 0, .ref 380, .int 258 0, .int 0 0, .ref 387, .int 271 0, .int 0 0, .ref 394, .int 282 0, .int 0 0, .ref 401, .int 292 0, .int 0 0, .ref 408, .int 308 0, .int 0 0, .ref 415, .int 311 0, .int 0 0, .ref 422, .int 316 0, .int 0 0, .ref 429, .int 338 0, .int 0 0, .ref 436, .int 344 0, .int 0 0, .ref 443, .int 355 0, .int 0 0, .ref 450, .int 397 0, .int 0 0, .ref 544, .int 401 0, .int 0 0, .ref 551, .int 498 0, .int 0 0, .ref 661, .int 511 0, .int 0 0, .ref 703, .int 522 0, .int 0 0, .ref 736, .int 537 0, .int 0 0, .ref 777, .int 565 0, .int 0 0, .ref 830, .int 591 0, .int 0 0, .ref 885, .int 601 0, .int 0 0, .ref 892, .int 607 0, .int 0 0, .ref 899, .int 610 0, .int 0 0, .ref 906, .int 622 0, .int 0 0, .ref 913, .int 642 0, .int 0 0, .ref 920, .int 644 0, .int 0 0, .ref 927, .int 646 0, .int 0 0, .ref 934, .int 655 0, .int 0 0, .ref 941, .int 659 0, .int 0 0, .ref 948], #[]⟩
noncomputable abbrev o914 : Obj := ⟨.type "tuple", none, .seq #[vS "state" 1397, vS "instruction" 1398, vS "target" 1399, vS "source" 1400, vS "size" 1401, vS "small" 1402, vS "worth" 1403] 0, #[]⟩
noncomputable abbrev o916 : Obj := ⟨.none, none, .func ⟨Str.ofString "widening_deed", Str.ofString "widening_deed", pa102, .stmts bo102, sc102, 0, [], .none, .none, .none, .none, none, .none, .none, 0⟩, #[]⟩
noncomputable abbrev o917 : Obj := ⟨.type "code", none, .fields #[vS "widening_deed" 1394, vS "widening_deed" 1395, vS "/claim/cut.py" 1396, .int 591 0, .int 2 0, .int 0 0, .int 0 0, .int 3 0, .ref 880, .bool true, .int 181 0, .ref 881, .none, .ref 882, .ref 883, .ref 884, .int 1404 0, .int 591 0, vS "/claim/cut.py" 1405], #[]⟩
noncomputable abbrev o918 : Obj := ⟨.type "function", none, .func ⟨Str.ofString "widening_deed", Str.ofString "widening_deed", pa102, .stmts bo102, sc102, 3, [], .none, .none, .none, vS "octetmint.rotates" 1392, none, .ref 885, .none, 0⟩, #[]⟩
noncomputable abbrev o921 : Obj := ⟨.type "tuple", none, .seq #[vS "state" 1416, vS "operand" 1417] 0, #[]⟩
noncomputable abbrev o923 : Obj := ⟨.none, none, .func ⟨Str.ofString "target_of", Str.ofString "target_of", pa103, .stmts bo103, sc103, 0, [], .none, .none, .none, .none, none, .none, .none, 0⟩, #[]⟩
noncomputable abbrev o924 : Obj := ⟨.type "code", none, .fields #[vS "target_of" 1413, vS "target_of" 1414, vS "/claim/cut.py" 1415, .int 601 0, .int 2 0, .int 0 0, .int 0 0, .int 3 0, .ref 887, .bool true, .int 181 0, .ref 888, .none, .ref 889, .ref 890, .ref 891, .int 1418 0, .int 601 0, vS "/claim/cut.py" 1419], #[]⟩
noncomputable abbrev o925 : Obj := ⟨.type "function", none, .func ⟨Str.ofString "target_of", Str.ofString "target_of", pa103, .stmts bo103, sc103, 3, [], .none, .none, .none, vS "octetmint.transfers" 1407, none, .ref 892, .none, 0⟩, #[]⟩
noncomputable abbrev o928 : Obj := ⟨.type "tuple", none, .seq #[vS "state" 1424] 0, #[]⟩
noncomputable abbrev o930 : Obj := ⟨.none, none, .func ⟨Str.ofString "count_down", Str.ofString "count_down", pa104, .stmts bo104, sc104, 0, [], .none, .none, .none, .none, none, .none, .none, 0⟩, #[]⟩
noncomputable abbrev o931 : Obj := ⟨.type "code", none, .fields #[vS "count_down" 1421, vS "count_down" 1422, vS "/claim/cut.py" 1423, .int 607 0, .int 1 0, .int 0 0, .int 0 0, .int 3 0, .ref 894, .bool true, .int 181 0, .ref 895, .none, .ref 896, .ref 897, .ref 898, .int 1425 0, .int 607 0, vS "/claim/cut.py" 1426], #[]⟩
noncomputable abbrev o932 : Obj := ⟨.type "function", none, .func ⟨Str.ofString "count_down", Str.ofString "count_down", pa104, .stmts bo104, sc104, 3, [], .none, .none, .none, vS "octetmint.transfers" 1407, none, .ref 899, .none, 0⟩, #[]⟩
noncomputable abbrev o935 : Obj := ⟨.type "tuple", none, .seq #[vS "state" 1431, vS "name" 1432] 0, #[]⟩
noncomputable abbrev o937 : Obj := ⟨.none, none, .func ⟨Str.ofString "is_taken", Str.ofString "is_taken", pa105, .stmts bo105, sc105, 0, [], .none, .none, .none, .none, none, .none, .none, 0⟩, #[]⟩
noncomputable abbrev o938 : Obj := ⟨.type "code", none, .fields #[vS "is_taken" 1428, vS "is_taken" 1429, vS "/claim/cut.py" 1430, .int 610 0, .int 2 0, .int 0 0, .int 0 0, .int 3 0, .ref 901, .bool true, .int 181 0, .ref 902, .none, .ref 903, .ref 904, .ref 905, .int 1433 0, .int 610 0, vS "/claim/cut.py" 1434], #[]⟩
noncomputable abbrev o939 : Obj := ⟨.type "function", none, .func ⟨Str.ofString "is_taken", Str.ofString "is_taken", pa105, .stmts bo105, sc105, 3, [], .none, .none, .none, vS "octetmint.transfers" 1407, none, .ref 906, .none, 0⟩, #[]⟩
noncomputable abbrev o942 : Obj := ⟨.type "tuple", none, .seq #[vS "state" 1439, vS "instruction" 1440, vS "name" 1441, vS "target" 1442] 0, #[]⟩
noncomputable abbrev o944 : Obj := ⟨.none, none, .func ⟨Str.ofString "jump_deed", Str.ofString "jump_deed", pa106, .stmts bo106, sc106, 0, [], .none, .none, .none, .none, none, .none, .none, 0⟩, #[]⟩
noncomputable abbrev o945 : Obj := ⟨.type "code", none, .fields #[vS "jump_deed" 1436, vS "jump_deed" 1437, vS "/claim/cut.py" 1438, .int 622 0, .int 2 0, .int 0 0, .int 0 0, .int 3 0, .ref 908, .bool true, .int 181 0, .ref 909, .none, .ref 910, .ref 911, .ref 912, .int 1443 0, .int 622 0, vS "/claim/cut.py" 1444], #[]⟩
noncomputable abbrev o946 : Obj := ⟨.type "function", none, .func ⟨Str.ofString "jump_deed", Str.ofString "jump_deed", pa106, .stmts bo106, sc106, 3, [], .none, .none, .none, vS "octetmint.transfers" 1407, none, .ref 913, .none, 0⟩, #[]⟩
noncomputable abbrev o949 : Obj := ⟨.type "tuple", none, .seq #[vS "script" 1455, vS "spot" 1456] 0, #[]⟩
noncomputable abbrev o951 : Obj := ⟨.none, none, .func ⟨Str.ofString "_law_cell", Str.ofString "_law_cell", pa107, .stmts bo107, sc107, 0, [], .none, .none, .none, .none, none, .none, .none, 0⟩, #[]⟩
noncomputable abbrev o952 : Obj := ⟨.type "code", none, .fields #[vS "_law_cell" 1452, vS "_law_cell" 1453, vS "/claim/cut.py" 1454, .int 642 0, .int 2 0, .int 0 0, .int 0 0, .int 3 0, .ref 915, .bool true, .int 181 0, .ref 916, .none, .ref 917, .ref 918, .ref 919, .int 1457 0, .int 642 0, vS "/claim/cut.py" 1458], #[]⟩
noncomputable abbrev o953 : Obj := ⟨.type "function", none, .func ⟨Str.ofString "_law_cell", Str.ofString "_law_cell", pa107, .stmts bo107, sc107, 3, [], .none, .none, .none, vS "law_nn0070_01" 1446, none, .ref 920, .none, 0⟩, #[]⟩
noncomputable abbrev o956 : Obj := ⟨.type "tuple", none, .seq #[vS "worth" 1463, vS "bits" 1464] 0, #[]⟩
noncomputable abbrev o958 : Obj := ⟨.none, none, .func ⟨Str.ofString "_law_near", Str.ofString "_law_near", pa108, .stmts bo108, sc108, 0, [], .none, .none, .none, .none, none, .none, .none, 0⟩, #[]⟩
noncomputable abbrev o959 : Obj := ⟨.type "code", none, .fields #[vS "_law_near" 1460, vS "_law_near" 1461, vS "/claim/cut.py" 1462, .int 644 0, .int 2 0, .int 0 0, .int 0 0, .int 3 0, .ref 922, .bool true, .int 181 0, .ref 923, .none, .ref 924, .ref 925, .ref 926, .int 1465 0, .int 644 0, vS "/claim/cut.py" 1466], #[]⟩
noncomputable abbrev o960 : Obj := ⟨.type "function", none, .func ⟨Str.ofString "_law_near", Str.ofString "_law_near", pa108, .stmts bo108, sc108, 3, [], .none, .none, .none, vS "law_nn0070_01" 1446, none, .ref 927, .none, 0⟩, #[]⟩
noncomputable abbrev o963 : Obj := ⟨.type "tuple", none, .seq #[vS "a" 1471, vS "b" 1472, vS "bits" 1473, vS "number" 1474, vS "left" 1475, vS "right" 1476, vS "rest" 1477, vS "count" 1478, vS "spot" 1479, vS "pair" 1480, vS "answers" 1481] 0, #[]⟩
noncomputable abbrev o965 : Obj := ⟨.none, none, .func ⟨Str.ofString "_law_truth", Str.ofString "_law_truth", pa109, .stmts bo109, sc109, 0, [], .none, .none, .none, .none, none, .none, .none, 0⟩, #[]⟩
noncomputable abbrev o966 : Obj := ⟨.type "code", none, .fields #[vS "_law_truth" 1468, vS "_law_truth" 1469, vS "/claim/cut.py" 1470, .int 646 0, .int 4 0, .int 0 0, .int 0 0, .int 3 0, .ref 929, .bool true, .int 181 0, .ref 930, .none, .ref 931, .ref 932, .ref 933, .int 1482 0, .int 646 0, vS "/claim/cut.py" 1483], #[]⟩
noncomputable abbrev o967 : Obj := ⟨.type "function", none, .func ⟨Str.ofString "_law_truth", Str.ofString "_law_truth", pa109, .stmts bo109, sc109, 3, [], .none, .none, .none, vS "law_nn0070_01" 1446, none, .ref 934, .none, 0⟩, #[]⟩
noncomputable abbrev o970 : Obj := ⟨.type "tuple", none, .seq #[vS "old" 1488, vS "low" 1489, vS "bits" 1490] 0, #[]⟩
noncomputable abbrev o972 : Obj := ⟨.none, none, .func ⟨Str.ofString "_law_set", Str.ofString "_law_set", pa110, .stmts bo110, sc110, 0, [], .none, .none, .none, .none, none, .none, .none, 0⟩, #[]⟩
noncomputable abbrev o973 : Obj := ⟨.type "code", none, .fields #[vS "_law_set" 1485, vS "_law_set" 1486, vS "/claim/cut.py" 1487, .int 655 0, .int 3 0, .int 0 0, .int 0 0, .int 3 0, .ref 936, .bool true, .int 181 0, .ref 937, .none, .ref 938, .ref 939, .ref 940, .int 1491 0, .int 655 0, vS "/claim/cut.py" 1492], #[]⟩
noncomputable abbrev o974 : Obj := ⟨.type "function", none, .func ⟨Str.ofString "_law_set", Str.ofString "_law_set", pa110, .stmts bo110, sc110, 3, [], .none, .none, .none, vS "law_nn0070_01" 1446, none, .ref 941, .none, 0⟩, #[]⟩
noncomputable abbrev o977 : Obj := ⟨.type "tuple", none, .seq #[vS "worths" 1497, vS "target" 1498, vS "truth" 1499, vS "one" 1500, vS "old" 1501] 0, #[]⟩
noncomputable abbrev o979 : Obj := ⟨.none, none, .func ⟨Str.ofString "_law_put_octet", Str.ofString "_law_put_octet", pa111, .stmts bo111, sc111, 0, [], .none, .none, .none, .none, none, .none, .none, 0⟩, #[]⟩
noncomputable abbrev o980 : Obj := ⟨.type "code", none, .fields #[vS "_law_put_octet" 1494, vS "_law_put_octet" 1495, vS "/claim/cut.py" 1496, .int 659 0, .int 3 0, .int 0 0, .int 0 0, .int 3 0, .ref 943, .bool true, .int 181 0, .ref 944, .none, .ref 945, .ref 946, .ref 947, .int 1502 0, .int 659 0, vS "/claim/cut.py" 1503], #[]⟩
noncomputable abbrev o981 : Obj := ⟨.type "function", none, .func ⟨Str.ofString "_law_put_octet", Str.ofString "_law_put_octet", pa111, .stmts bo111, sc111, 3, [], .none, .none, .none, vS "law_nn0070_01" 1446, none, .ref 948, .none, 0⟩, #[]⟩
noncomputable abbrev o982 (P : Params) : Obj := ⟨.type "dict", none, (.dict #[dE P "__name__" 165 (vS "law_nn0070_01" 1446), dE P "__doc__" 166 .none, dE P "__package__" 167 .none, dE P "__loader__" 168 (.builtin "__main__.__loader__#opaque"), dE P "__spec__" 169 .none, dE P "__annotations__" 170 (.ref 6), dE P "__builtins__" 171 (.ref 4), dE P "__file__" 173 (vS "/claim/cut.py" 172), dE P "__cached__" 174 .none, dE P "_wall" 193 (.ref 21), dE P "MintError" 233 (.ref 46), dE P "OperandError" 249 (.ref 59), dE P "MachineError" 265 (.ref 71), dE P "mask" 272 (.ref 80), dE P "wrap" 280 (.ref 87), dE P "signed" 289 (.ref 94), dE P "extended" 298 (.ref 101), dE P "bit" 306 (.ref 108), dE P "ones" 316 (.ref 115), dE P "parity" 323 (.ref 122), dE P "CONDITIONS" 327 (vS "o no b ae e ne be a s ns p np l ge le g" 326), dE P "condition_names" 333 (.ref 129), dE P "CF" 337 (.int 0 336), dE P "PF" 339 (.int 2 338), dE P "AF" 341 (.int 4 340), dE P "ZF" 343 (.int 6 342), dE P "SF" 345 (.int 7 344), dE P "DF" 347 (.int 10 346), dE P "OF" 349 (.int 11 348), dE P "FLAG_NAMES" 351 (vS "cf pf af zf sf of df" 350), dE P "Flags" 451 (.ref 202), dE P "condition_number" 458 (.ref 213), dE P "holds_number" 468 (.ref 220), dE P "holds" 476 (.ref 227), dE P "szp" 486 (.ref 234), dE P "add_flags" 501 (.ref 241), dE P "sub_flags" 516 (.ref 248), dE P "logic_flags" 525 (.ref 255), dE P "inc_flags" 536 (.ref 262), dE P "dec_flags" 547 (.ref 269), dE P "neg_flags" 556 (.ref 276), dE P "condition_of" 566 (.ref 283), dE P "NAMES_8" 570 (vS "al cl dl bl spl bpl sil dil" 569), dE P "NAMES_16" 572 (vS "ax cx dx bx sp bp si di" 571), dE P "NAMES_32" 574 (vS "eax ecx edx ebx esp ebp esi edi" 573), dE P "NAMES_64" 576 (vS "rax rcx rdx rbx rsp rbp rsi rdi" 575), dE P "HIGH_NAMES" 578 (vS "ah ch dh bh" 577), dE P "Register" 648 (.ref 335), dE P "early_names" 655 (.ref 346), dE P "late_ending" 662 (.ref 353), dE P "gpr" 671 (.ref 360), dE P "high" 678 (.ref 367), dE P "AH_NUMBER" 682 (.int 4 681), dE P "combined" 693 (.ref 374), dE P "two_deed" 707 (.ref 381), dE P "one_deed" 719 (.ref 388), dE P "xadd_deed" 733 (.ref 395), dE P "cmpxchg_deed" 748 (.ref 402), dE P "flag_deed" 757 (.ref 409), dE P "set_deed" 766 (.ref 416), dE P "cmov_deed" 779 (.ref 423), dE P "arith_deed" 788 (.ref 430), dE P "ALIASES" 792 (vS "c:b nae:b nb:ae nc:ae z:e nz:ne na:be nbe:a pe:p po:np nge:l nl:ge ng:le nle:g" 791), dE P "OTHER_NAMES" 794 (vS "sal:shl loopz:loope loopnz:loopne repe:rep repz:rep repnz:repne" 793), dE P "pairs_of" 805 (.ref 437), dE P "canonical" 815 (.ref 444), dE P "STACK" 819 (.int 4 818), dE P "Memory" 940 (.ref 534), dE P "joined" 949 (.ref 545), dE P "State" 1101 (.ref 651), dE P "Operand" 1153 (.ref 693), dE P "Reg" 1192 (.ref 728), dE P "Rel" 1242 (.ref 769), dE P "Mem" 1318 (.ref 822), dE P "Instruction" 1391 (.ref 875), dE P "widening_deed" 1406 (.ref 886), dE P "RCX" 1410 (.int 1 1409), dE P "RSP" 1412 (.int 4 1411), dE P "target_of" 1420 (.ref 893), dE P "count_down" 1427 (.ref 900), dE P "is_taken" 1435 (.ref 907), dE P "jump_deed" 1445 (.ref 914), dE P "_law_names" 1449 (vS "o no b,c,nae ae,nc,nb e,z ne,nz be,na a,nbe s ns p,pe np,po l,nge ge,nl le,ng g,nle" 1448), dE P "_law_widenings" 1451 (vS "movzx:8:16 movzx:8:32 movzx:8:64 movzx:16:32 movzx:16:64 movsx:8:16 movsx:8:32 movsx:8:64 movsx:16:32 movsx:16:64 movsxd:32:64" 1450), dE P "_law_cell" 1459 (.ref 921), dE P "_law_near" 1467 (.ref 928), dE P "_law_truth" 1484 (.ref 935), dE P "_law_set" 1493 (.ref 942), dE P "_law_put_octet" 1504 (.ref 949), dE P "_law_octet" 1512 (.ref 956), dE P "_law_widened" 1528 (.ref 963), dE P "law" 1534 (.ref 968)] 92), #[]⟩
noncomputable abbrev o983 : Obj := ⟨.none, none, .fields #[.int 1 0, .int 0 0, .ref 20, .int 5 0, .int 0 0, .ref 27, .int 16 0, .int 0 0, .ref 55, .int 18 0, .int 0 0, .ref 67, .int 20 0, .int 0 0, .ref 79, .int 22 0, .int 0 0, .ref 86, .int 24 0, .int 0 0, .ref 93, .int 29 0, .int 0 0, .ref 100, .int 31 0, .int 0 0, .ref 107, .int 33 0, .int 0 0, .ref 114, .int 40 0, .int 0 0, .ref 121, .int 44 0, .int 0 0, .ref 128, .int 55 0, .int 0 0, .ref 135, .int 108 0, .int 0 0, .ref 212, .int 112 0, .int 0 0, .ref 219, .int 131 0, .int 0 0, .ref 226, .int 133 0, .int 0 0, .ref 233, .int 139 0, .int 0 0, .ref 240, .int 147 0, .int 0 0, .ref 247, .int 155 0, .int 0 0, .ref 254, .int 160 0, .int 0 0, .ref 261, .int 165 0, .int 0 0, .ref 268, .int 170 0, .int 0 0, .ref 275, .int 173 0, .int 0 0, .ref 282, .int 184 0, .int 0 0, .ref 289, .int 206 0, .int 0 0, .ref 345, .int 216 0, .int 0 0, .ref 352, .int 224 0, .int 0 0, .ref 359, .int 231 0, .int 0 0, .ref 366, .int 237 0, .int 0 0, .ref 373, .int 251 0, .int 0 0, .ref 380, .int 258 0, .int 0 0, .ref 387, .int 271 0, .int 0 0, .ref 394, .int 282 0, .int 0 0, .ref 401, .int 292 0, .int 0 0, .ref 408, .int 308 0, .int 0 0, .ref 415, .int 311 0, .int 0 0, .ref 422, .int 316 0, .int 0 0, .ref 429, .int 338 0, .int 0 0, .ref 436, .int 344 0, .int 0 0, .ref 443, .int 355 0, .int 0 0, .ref 450, .int 397 0, .int 0 0, .ref 544, .int 401 0, .int 0 0, .ref 551, .int 498 0, .int 0 0, .ref 661, .int 511 0, .int 0 0, .ref 703, .int 522 0, .int 0 0, .ref 736, .int 537 0, .int 0 0, .ref 777, .int 565 0, .int 0 0, .ref 830, .int 591 0, .int 0 0, .ref 885, .int 601 0, .int 0 0, .ref 892, .int 607 0, .int 0 0, .ref 899, .int 610 0, .int 0 0, .ref 906, .int 622 0, .int 0 0, .ref 913, .int 642 0, .int 0 0, .ref 920, .int 644 0, .int 0 0, .ref 927, .int 646 0, .int 0 0, .ref 934, .int 655 0, .int 0 0, .ref 941, .int 659 0, .int 0 0, .ref 948, .int 666 0, .int 0 0, .ref 955, .int 672 0, .int 0 0, .ref 962, .int 688 0, .int 0 0, .ref 967], #[]⟩
noncomputable abbrev o986 : Obj := ⟨.type "tuple", none, .seq #[vS "target" 1508, vS "place" 1509] 0, #[]⟩
noncomputable abbrev o988 : Obj := ⟨.none, none, .func ⟨Str.ofString "_law_octet", Str.ofString "_law_octet", pa112, .stmts bo112, sc112, 0, [], .none, .none, .none, .none, none, .none, .none, 0⟩, #[]⟩
noncomputable abbrev o989 : Obj := ⟨.type "code", none, .fields #[vS "_law_octet" 1505, vS "_law_octet" 1506, vS "/claim/cut.py" 1507, .int 666 0, .int 2 0, .int 0 0, .int 0 0, .int 3 0, .ref 950, .bool true, .int 181 0, .ref 951, .none, .ref 952, .ref 953, .ref 954, .int 1510 0, .int 666 0, vS "/claim/cut.py" 1511], #[]⟩
noncomputable abbrev o990 : Obj := ⟨.type "function", none, .func ⟨Str.ofString "_law_octet", Str.ofString "_law_octet", pa112, .stmts bo112, sc112, 3, [], .none, .none, .none, vS "law_nn0070_01" 1446, none, .ref 955, .none, 0⟩, #[]⟩
noncomputable abbrev o993 : Obj := ⟨.type "tuple", none, .seq #[vS "script" 1516, vS "worths" 1517, vS "name" 1518, vS "low" 1519, vS "wide" 1520, vS "to" 1521, vS "source" 1522, vS "worth" 1523, vS "giver" 1524, vS "state" 1525] 0, #[]⟩
noncomputable abbrev o995 : Obj := ⟨.none, none, .func ⟨Str.ofString "_law_widened", Str.ofString "_law_widened", pa113, .stmts bo113, sc113, 0, [], .none, .none, .none, .none, none, .none, .none, 0⟩, #[]⟩
noncomputable abbrev o996 : Obj := ⟨.type "code", none, .fields #[vS "_law_widened" 1513, vS "_law_widened" 1514, vS "/claim/cut.py" 1515, .int 672 0, .int 2 0, .int 0 0, .int 0 0, .int 3 0, .ref 957, .bool true, .int 181 0, .ref 958, .none, .ref 959, .ref 960, .ref 961, .int 1526 0, .int 672 0, vS "/claim/cut.py" 1527], #[]⟩
noncomputable abbrev o997 : Obj := ⟨.type "function", none, .func ⟨Str.ofString "_law_widened", Str.ofString "_law_widened", pa113, .stmts bo113, sc113, 3, [], .none, .none, .none, vS "law_nn0070_01" 1446, none, .ref 962, .none, 0⟩, #[]⟩
noncomputable abbrev o1000 : Obj := ⟨.none, none, .func ⟨Str.ofString "law", Str.ofString "law", pa114, .stmts bo114, sc114, 0, [], .none, .none, .none, .none, none, .none, .none, 0⟩, #[]⟩
noncomputable abbrev o1001 : Obj := ⟨.type "code", none, .fields #[vS "law" 1529, vS "law" 1530, vS "/claim/cut.py" 1531, .int 688 0, .int 1 0, .int 0 0, .int 0 0, .int 3 0, .ref 964, .bool true, .int 181 0, .ref 965, .none, .none, .none, .ref 966, .int 1532 0, .int 688 0, vS "/claim/cut.py" 1533], #[]⟩
noncomputable abbrev o1002 : Obj := ⟨.type "function", none, .func ⟨Str.ofString "law", Str.ofString "law", pa114, .stmts bo114, sc114, 3, [], .none, .none, .none, vS "law_nn0070_01" 1446, none, .ref 967, .none, 0⟩, #[]⟩
noncomputable def hA (P : Params) : Heap := ⟨#[(boot_o_0 P), (boot_o_1 P), (boot_o_2 P), (boot_o_3 P), (boot_o_4 P), (boot_o_5 P), (boot_o_6 P), (boot_o_7 P), (boot_o_8 P), (boot_o_9 P), (boot_o_10 P), o0, o1, o2, o3], {}⟩
noncomputable def u0 : BT := (N o0 L L)
noncomputable def u1 : BT := (N o1 L L)
noncomputable def u2 : BT := (N o11 (N o27 (N o65 L L) (N o97 L L)) (N o15 (N o81 L L) (N o113 L L)))
noncomputable def u3 : BT := (N o0 u1 L)
noncomputable def u4 : BT := (N o0 u0 L)
noncomputable def u5 (P : Params) : BT := (N (boot_o_7 P) (N o0 (N o1 (N o15 (N o127 (N o259 L L) L) (N o193 L L)) (N o0 u1 (N o227 L L))) (N o39 (N o77 (N o145 u1 L) u0) (N o109 u0 (N o243 L L)))) (N o15 (N o31 (N o69 (N o137 u0 L) (N o201 L L)) (N o1 (N o169 L L) u0)) (N o50 (N o85 (N o0 (N o283 L L) L) u1) (N o0 (N o185 L L) (N o251 L L)))))
noncomputable def u6 : BT := (N o0 (N o11 (N o27 (N o65 (N o15 u0 L) (N o197 L L)) (N o97 (N o165 L L) (N o231 L L))) (N o15 (N o81 (N o0 (N o279 L L) L) (N o215 L L)) (N o113 u0 u1))) (N o19 (N o35 (N o1 (N o141 (N o271 L L) L) (N o205 L L)) (N o105 (N o173 L L) u0)) (N o54 (N o0 (N o157 (N o287 L L) L) (N o223 L L)) (N o0 u1 (N o255 L L)))))
noncomputable def u7 : BT := (N o1 u0 L)
noncomputable def u8 (P : Params) : BT := (N (boot_o_5 P) (N (boot_o_9 P) (N o9 (N o0 (N o0 (N o129 u1 L) u0) (N o95 u0 (N o229 L L))) (N o41 (N o0 u7 (N o213 L L)) (N o111 (N o179 L L) (N o245 L L)))) (N o0 (N o33 (N o71 (N o0 (N o269 L L) L) (N (o203 P) L L)) (N o0 (N o171 L L) (N o237 L L))) (N o0 (N o1 (N o155 (N o285 L L) L) u0) (N o121 (N o187 L L) u0)))) (N o2 (N o13 (N o0 (N o0 (N o0 (N o265 L L) L) (N o199 L L)) (N o99 u0 u1)) (N o0 (N o83 (N o151 u0 L) (N o217 L L)) (N o1 (N o183 L L) u0))) (N o21 (N (o37 P) (N o0 (N o143 (N o273 L L) L) (N o207 L L)) (N o0 u1 (N o241 L L))) (N o56 (N o91 (N o159 L L) u0) (N o0 u0 (N o257 L L))))))
noncomputable def u9 (P : Params) : BT := (N (o4 P) (N (boot_o_4 P) (N (boot_o_8 P) (N o1 (N o24 (N (o62 P) (N o128 u0 L) (N o194 L L)) (N o1 (N o162 L L) u0)) (N o40 (N o78 (N o0 (N o276 L L) L) u1) (N o0 (N o178 L L) (N o244 L L)))) (N (o16 P) (N o0 (N o70 (N o138 u1 L) (N o202 L L)) (N o102 u0 (N o236 L L))) (N o51 (N o0 u7 (N o220 L L)) (N o120 (N o186 L L) (N o252 L L))))) (N o210 (N o12 (N o28 (N o66 (N (o134 P) (N o264 L L) L) u0) (N o98 (N o166 L L) u0)) (N (o47 P) (N o0 (N o150 (N o280 L L) L) (N o216 L L)) (N o0 u1 (N o248 L L)))) (N o20 (N o36 (N o74 (N o0 (N o272 L L) L) (N o206 L L)) (N o106 u0 u1)) (N o55 (N o90 (N o158 L L) (N o224 L L)) (N o1 (N o190 L L) u0))))) (N (boot_o_6 P) (N (boot_o_10 P) (N o0 (N o26 (N o1 (N o0 (N o262 L L) L) u1) (N o0 (N o164 L L) (N o230 L L))) (N o45 (N o1 (N o148 (N o278 L L) L) u0) (N o112 (N o180 L L) u0))) (N o18 (N o34 (N o0 u7 (N o204 L L)) (N o104 (N o172 L L) (N o238 L L))) (N (o53 P) (N o88 (N o0 (N o286 L L) L) (N o222 L L)) (N o122 u0 u1)))) (N o3 (N o14 (N o1 (N (o68 P) (N o136 (N o266 L L) L) (N o200 L L)) (N o0 u1 (N o234 L L))) (N o1 (N o84 (N o152 u1 L) u0) (N o118 u0 (N o250 L L)))) (N o0 (N o59 (N o76 (N o144 u0 L) (N o208 L L)) (N o1 (N o176 L L) u0)) (N o45 (N o92 u0 u1) (N o0 (N o192 L L) (N o258 L L)))))))
noncomputable def u10 : BT := (N o1 (N o15 (N o127 (N o259 L L) u1) (N o193 u0 L)) (N o0 (N o1 u0 (N o424 L L)) (N o227 (N o360 L L) L)))
noncomputable def u11 : BT := (N o56 (N o91 (N o159 (N o15 L L) u0) (N o0 (N o358 L L) L)) (N o0 (N o0 (N o324 L L) L) (N o257 (N o390 L L) L)))
noncomputable def u12 (P : Params) : BT := (N o24 (N (o62 P) (N o128 u0 (N o393 L L)) (N o194 u1 L)) (N o1 (N o162 (N o295 L L) (N o425 L L)) (N o0 (N o361 L L) L)))
noncomputable def u13 (P : Params) : BT := (N o45 (N o92 (N o0 (N (o293 P) L L) (N o423 L L)) u7) (N o0 (N o192 (N o325 L L) L) (N o258 u0 L)))
noncomputable def u14 (P : Params) : BT := (N o15 (N o127 (N o259 u0 L) u1) (N o193 u0 (N (o460 P) L L)))
noncomputable def u15 : BT := (N o39 (N o77 (N o145 (N o1 (N o540 L L) L) u0) (N o0 (N o342 L L) (N o476 L L))) (N o109 (N o0 (N o310 L L) u0) (N o243 (N o376 L L) u1)))
noncomputable def u16 : BT := (N o15 (N o31 (N o69 (N o137 u3 (N o400 L L)) (N o201 u1 u0)) (N o1 (N o169 (N o302 L L) (N o434 L L)) (N o0 (N o368 L L) u0))) (N o50 (N o85 (N o0 (N o283 (N o548 L L) L) (N o416 L L)) (N o1 u0 (N o484 L L))) (N o0 (N o185 (N o318 L L) u1) (N o251 u0 (N o516 L L)))))
noncomputable def u17 : BT := (N o11 (N o27 (N o65 (N o15 (N o0 (N o528 L L) L) (N o396 L L)) (N o197 (N o330 L L) (N o464 L L))) (N o97 (N o165 u0 (N o430 L L)) (N o231 u1 u0))) (N o15 (N o81 (N o0 (N o279 (N o544 L L) L) u0) (N o215 (N o346 L L) u1)) (N o113 (N o0 (N o314 L L) (N o446 L L)) (N o1 u0 u0))))
noncomputable def u18 : BT := (N o35 (N o1 (N o141 (N o271 (N o536 L L) L) (N o404 L L)) (N o205 (N o338 L L) u0)) (N o105 (N o173 u1 u0) (N o0 (N o372 L L) (N o504 L L))))
noncomputable def u19 : BT := (N o0 (N o129 (N o1 (N o526 L L) L) u0) (N o0 (N o328 L L) (N o462 L L)))
noncomputable def u20 : BT := (N o41 (N o0 (N o1 (N o0 (N o542 L L) L) (N o410 L L)) (N o213 (N o344 L L) (N o478 L L))) (N o111 (N o179 u0 (N o444 L L)) (N o245 u1 (N o510 L L))))
noncomputable def u21 (P : Params) : BT := (N o0 (N o33 (N o71 (N o0 (N o269 u0 L) (N o402 L L)) (N (o203 P) u0 (N o470 L L))) (N o0 (N o171 (N o304 L L) u1) (N o237 u0 (N o502 L L)))) (N o0 (N o1 (N o155 (N o285 (N o550 L L) L) (N o418 L L)) (N o0 (N o354 L L) u0)) (N o121 (N o187 u1 u0) (N o0 (N o386 L L) u1))))
noncomputable def u22 (P : Params) : BT := (N o13 (N o0 (N o0 (N o0 (N o265 (N o530 L L) L) u0) (N o199 (N o332 L L) u1)) (N o99 (N o0 (N o300 L L) (N o432 L L)) (N o1 u0 (N o498 L L)))) (N o0 (N o83 (N o151 (N o0 (N (o546 P) L L) L) (N o414 L L)) (N o217 u1 u0)) (N o1 (N o183 (N o316 L L) (N o448 L L)) (N o0 (N o382 L L) (N o514 L L)))))
noncomputable def u23 (P : Params) : BT := (N (o37 P) (N o0 (N o143 (N o273 u0 L) u1) (N o207 (N o340 L L) (N o474 L L))) (N o0 (N o1 u0 (N o440 L L)) (N o241 (N o374 L L) (N o506 L L))))
noncomputable def u24 : BT := (N o0 (N o0 (N o324 L L) u0) (N o257 (N o390 L L) (N o522 L L)))
noncomputable def u25 (P : Params) : BT := (N (o62 P) (N o128 u3 (N o393 L L)) (N o194 u1 u0))
noncomputable def u26 : BT := (N o40 (N o78 (N o0 (N o276 u0 L) (N o409 L L)) (N o1 (N o343 L L) (N o477 L L))) (N o0 (N o178 (N o311 L L) u1) (N o244 u0 (N o509 L L))))
noncomputable def u27 (P : Params) : BT := (N (o16 P) (N o0 (N o70 (N o138 (N o1 (N o533 L L) L) u0) (N o202 (N o335 L L) (N o469 L L))) (N o102 (N o0 (N o303 L L) u0) (N o236 (N o369 L L) u1))) (N o51 (N o0 (N o1 (N o0 (N o549 L L) L) (N o417 L L)) (N o220 (N o353 L L) (N o485 L L))) (N o120 (N o186 u0 (N o451 L L)) (N o252 u1 u0))))
noncomputable def u28 (P : Params) : BT := (N o12 (N o28 (N o66 (N (o134 P) (N o264 (N o529 L L) L) (N o397 L L)) (N o0 (N o331 L L) u0)) (N o98 (N o166 u1 u0) (N o0 (N o365 L L) (N o497 L L)))) (N (o47 P) (N o0 (N o150 (N o280 (N o545 L L) L) u1) (N o216 u0 (N o481 L L))) (N o0 (N o1 u0 (N o447 L L)) (N o248 (N o381 L L) u1))))
noncomputable def u29 : BT := (N o36 (N o74 (N o0 (N o272 (N o537 L L) L) u0) (N o206 (N o339 L L) u1)) (N o106 (N o0 (N o307 L L) (N o439 L L)) (N o1 u0 (N o505 L L))))
noncomputable def u30 : BT := (N o1 (N o190 (N o323 L L) (N o455 L L)) (N o0 (N o389 L L) (N o521 L L)))
noncomputable def u31 (P : Params) : BT := (N (boot_o_10 P) (N o0 (N o26 (N o1 (N o0 (N o262 u0 L) (N o395 L L)) (N o1 u0 (N o463 L L))) (N o0 (N o164 (N o297 L L) u1) (N o230 u0 (N o495 L L)))) (N o45 (N o1 (N o148 (N o278 (N o543 L L) L) (N o411 L L)) (N o0 (N o345 L L) u0)) (N o112 (N o180 u1 u0) (N o0 (N o379 L L) (N o511 L L))))) (N o18 (N o34 (N o0 (N o1 (N o0 (N o535 L L) L) (N o403 L L)) (N o204 (N o337 L L) (N o471 L L))) (N o104 (N o172 u0 (N o437 L L)) (N o238 u1 u0))) (N (o53 P) (N o88 (N o0 (N o286 (N o551 L L) L) u0) (N o222 (N o355 L L) u1)) (N o122 (N o0 (N o321 L L) (N o453 L L)) (N o1 u0 (N o519 L L))))))
noncomputable def u32 (P : Params) : BT := (N o14 (N o1 (N (o68 P) (N o136 (N o266 u0 L) u1) (N o200 u0 (N o467 L L))) (N o0 (N o1 u0 (N o433 L L)) (N o234 (N o367 L L) (N o499 L L)))) (N o1 (N o84 (N o152 (N o1 (N o547 L L) L) u0) (N o0 (N o351 L L) (N o483 L L))) (N o118 (N o0 (N o317 L L) u0) (N o250 (N o383 L L) (N o515 L L)))))
noncomputable def u33 (P : Params) : BT := (N o59 (N o76 (N o144 u3 (N o407 L L)) (N o208 (N (o341 P) L L) u0)) (N o1 (N o176 (N o309 L L) (N o441 L L)) (N o0 (N o375 L L) u0)))
noncomputable def u34 : BT := (N o0 (N o192 (N o325 L L) (N o15 L L)) (N o258 u0 (N o523 L L)))
noncomputable def u35 (P : Params) : BT := (N o15 (N o127 (N o259 u0 L) (N o1 (N o656 L L) L)) (N o193 u3 (N (o460 P) L L)))
noncomputable def u36 : BT := (N o77 (N o145 (N o1 (N o540 L L) L) (N o0 (N o672 L L) L)) (N o0 (N o342 (N o608 L L) L) (N o476 L L)))
noncomputable def u37 : BT := (N o69 (N o137 u3 (N o400 (N o664 L L) L)) (N o201 (N o1 (N o600 L L) L) u0))
noncomputable def u38 : BT := (N o65 (N o15 (N o0 (N o528 L L) L) (N o396 u1 L)) (N o197 (N o330 (N o596 L L) L) (N o464 L L)))
noncomputable def u39 : BT := (N o1 (N o141 (N o271 (N o536 L L) L) (N o404 (N o668 L L) L)) (N o205 (N o338 u1 L) u0))
noncomputable def u40 : BT := (N o0 (N o1 (N o0 (N o588 L L) L) (N o454 L L)) (N o255 (N o388 u0 L) u0))
noncomputable def u41 : BT := (N o0 (N o129 (N o1 (N o526 L L) L) (N o0 (N o658 L L) L)) (N o0 (N o328 u0 L) (N o462 L L)))
noncomputable def u42 (P : Params) : BT := (N o71 (N o0 (N o269 u0 L) (N o402 (N o666 L L) L)) (N (o203 P) (N o0 (N o602 L L) L) (N o470 L L)))
noncomputable def u43 : BT := (N o0 (N o0 (N o265 (N o530 L L) L) u4) (N o199 (N o332 u0 L) u1))
noncomputable def u44 : BT := (N o0 (N o382 u1 L) (N o514 L L))
noncomputable def u45 : BT := (N o0 (N o143 (N o273 u0 L) (N o1 (N o670 L L) L)) (N o207 (N o340 u0 L) (N o474 L L)))
noncomputable def u46 : BT := (N o0 (N o0 (N o324 (N o590 L L) L) u0) (N o257 (N o390 (N o654 L L) L) (N o522 L L)))
noncomputable def u47 (P : Params) : BT := (N (o62 P) (N o128 u3 (N o393 (N o657 L L) L)) (N o194 (N o1 (N o593 L L) L) u0))
noncomputable def u48 : BT := (N o70 (N o138 (N o1 (N o533 L L) L) (N o0 (N o665 L L) L)) (N o202 (N o335 (N o601 L L) L) (N o469 L L)))
noncomputable def u49 (P : Params) : BT := (N o66 (N (o134 P) (N o264 (N o529 L L) L) (N o397 (N o661 L L) L)) (N o0 (N o331 (N o597 L L) L) u0))
noncomputable def u50 : BT := (N o74 (N o0 (N o272 (N o537 L L) L) (N o0 (N o669 L L) L)) (N o206 (N o339 (N o605 L L) L) u1))
noncomputable def u51 : BT := (N o1 (N o190 (N o323 (N o589 L L) L) (N o455 L L)) (N o0 (N o389 u1 L) (N o521 L L)))
noncomputable def u52 : BT := (N o1 (N o0 (N o262 u0 L) (N o395 u0 L)) (N o1 (N o0 (N o595 L L) L) (N o463 L L)))
noncomputable def u53 (P : Params) : BT := (N o0 (N o1 (N o0 (N o535 L L) L) (N o403 (N (o667 P) L L) L)) (N o204 (N o337 u0 L) (N o471 L L)))
noncomputable def u54 : BT := (N o122 (N o0 (N o321 u0 L) (N o453 L L)) (N o1 (N o0 (N o651 L L) L) (N o519 L L)))
noncomputable def u55 (P : Params) : BT := (N (o68 P) (N o136 (N o266 u0 L) (N o1 (N o663 L L) L)) (N o200 u3 (N o467 L L)))
noncomputable def u56 (P : Params) : BT := (N o76 (N o144 u3 (N o407 (N o671 L L) L)) (N o208 (N (o341 P) (N o607 L L) L) u0))
noncomputable def u57 : BT := (N o0 (N o192 (N o325 u0 L) (N o15 L L)) (N o258 u4 (N o523 L L)))
noncomputable def u58 : BT := (N o0 (N o1 (N o0 (N o558 L L) L) (N o424 u1 L)) (N o227 (N o360 u0 L) (N o492 L L)))
noncomputable def u59 : BT := (N o109 (N o0 (N o310 (N o576 L L) L) u4) (N o243 (N o376 (N o640 L L) L) u1))
noncomputable def u60 : BT := (N o1 (N o169 (N o302 (N o568 L L) L) (N o434 (N o698 L L) L)) (N o0 (N o368 u1 L) u0))
noncomputable def u61 : BT := (N o0 (N o185 (N o318 u0 L) (N o1 (N o714 L L) L)) (N o251 u4 (N o516 L L)))
noncomputable def u62 : BT := (N o97 (N o165 (N o0 (N o15 L L) L) (N o430 (N o694 L L) L)) (N o231 (N o1 (N o628 L L) L) u0))
noncomputable def u63 : BT := (N o113 (N o0 (N o314 u0 L) (N o446 (N o710 L L) L)) (N o1 (N o0 (N o644 L L) L) u0))
noncomputable def u64 : BT := (N o105 (N o173 (N o1 (N o572 L L) L) (N o0 (N o702 L L) L)) (N o0 (N o372 (N o636 L L) L) (N o504 L L)))
noncomputable def u65 : BT := (N o0 (N o157 (N o287 u0 L) (N o1 (N o686 L L) L)) (N o223 u4 (N o488 L L)))
noncomputable def u66 : BT := (N o95 (N o0 (N o296 (N o560 L L) L) u4) (N o229 (N o362 (N o626 L L) L) u1))
noncomputable def u67 : BT := (N o111 (N o179 u3 (N o444 (N o708 L L) L)) (N o245 (N o1 (N o642 L L) L) (N o510 L L)))
noncomputable def u68 : BT := (N o0 (N o171 (N o304 u0 L) (N o1 (N o700 L L) L)) (N o237 u4 (N o502 L L)))
noncomputable def u69 : BT := (N o121 (N o187 (N o1 (N o586 L L) L) (N o0 (N o716 L L) L)) (N o0 (N o386 (N o650 L L) L) u1))
noncomputable def u70 : BT := (N o99 (N o0 (N o300 u0 L) (N o432 u0 L)) (N o1 (N o0 (N o630 L L) L) (N o498 L L)))
noncomputable def u71 : BT := (N o0 (N o1 (N o0 (N o574 L L) L) (N o440 u1 L)) (N o241 (N o374 u0 L) (N o506 L L)))
noncomputable def u72 : BT := (N o91 (N o159 (N o15 (N o556 L L) L) (N o0 (N o688 L L) L)) (N o0 (N o358 (N o622 L L) L) (N o490 L L)))
noncomputable def u73 : BT := (N o1 (N o162 (N o295 (N o559 L L) L) (N o425 (N o691 L L) L)) (N o0 (N o361 u1 L) u0))
noncomputable def u74 : BT := (N o0 (N o178 (N o311 u0 L) (N o1 (N o707 L L) L)) (N o244 u4 (N o509 L L)))
noncomputable def u75 : BT := (N o102 (N o0 (N o303 (N o569 L L) L) u4) (N o236 (N o369 (N o633 L L) L) u1))
noncomputable def u76 : BT := (N o120 (N o186 u3 (N o451 (N o715 L L) L)) (N o252 (N o1 (N o649 L L) L) u0))
noncomputable def u77 (P : Params) : BT := (N o98 (N o166 (N o1 (N (o565 P) L L) L) (N o0 (N o695 L L) L)) (N o0 (N o365 (N o629 L L) L) (N o497 L L)))
noncomputable def u78 (P : Params) : BT := (N o0 (N o1 (N o0 (N o581 L L) L) (N o447 (N (o711 P) L L) L)) (N o248 (N o381 u0 L) u1))
noncomputable def u79 : BT := (N o106 (N o0 (N o307 u0 L) (N o439 u0 L)) (N o1 (N o0 (N o637 L L) L) (N o505 L L)))
noncomputable def u80 : BT := (N o90 (N o158 u3 (N o421 (N o687 L L) L)) (N o224 (N o1 (N o621 L L) L) u0))
noncomputable def u81 : BT := (N o0 (N o164 (N o297 u0 L) (N o1 (N o693 L L) L)) (N o230 u4 (N o495 L L)))
noncomputable def u82 : BT := (N o112 (N o180 (N o1 (N o579 L L) L) (N o0 (N o709 L L) L)) (N o0 (N o379 (N o643 L L) L) (N o511 L L)))
noncomputable def u83 : BT := (N o104 (N o172 u3 (N o437 (N o701 L L) L)) (N o238 (N o1 (N o635 L L) L) u0))
noncomputable def u84 : BT := (N o0 (N o1 (N o0 (N o567 L L) L) (N o433 u1 L)) (N o234 (N o367 u0 L) (N o499 L L)))
noncomputable def u85 : BT := (N o118 (N o0 (N o317 (N o583 L L) L) (N o0 (N o713 L L) L)) (N o250 (N o383 (N o647 L L) L) (N o515 L L)))
noncomputable def u86 : BT := (N o1 (N o176 (N o309 (N o575 L L) L) (N o441 (N o705 L L) L)) (N o0 (N o375 u1 L) u0))
noncomputable def u87 (P : Params) : BT := (N o92 (N o0 (N (o293 P) u0 L) (N o423 u0 L)) (N o1 (N o0 (N o623 L L) L) (N o491 L L)))
noncomputable def u88 : BT := (N o77 (N o145 (N o1 (N o540 L L) L) (N o0 (N o672 L L) L)) (N o0 (N o342 (N o608 L L) L) (N o476 u0 L)))
noncomputable def u89 : BT := (N o69 (N o137 u3 (N o400 (N o664 L L) L)) (N o201 (N o1 (N o600 L L) L) (N o0 (N o733 L L) L)))
noncomputable def u90 (P : Params) : BT := (N o85 (N o0 (N o283 (N o548 L L) L) (N o416 u0 L)) (N o1 (N o0 (N o616 L L) L) (N o484 (N (o749 P) L L) L)))
noncomputable def u91 : BT := (N o81 (N o0 (N o279 (N o544 L L) L) u4) (N o215 (N o346 (N o612 L L) L) (N o1 (N o745 L L) L)))
noncomputable def u92 : BT := (N o1 (N o141 (N o271 (N o536 L L) L) (N o404 (N o668 L L) L)) (N o205 (N o338 u1 L) u4))
noncomputable def u93 : BT := (N o0 (N o1 (N o0 (N o542 L L) L) (N o410 (N o15 L L) L)) (N o213 (N o344 u0 L) (N o478 (N o743 L L) L)))
noncomputable def u94 (P : Params) : BT := (N o71 (N o0 (N o269 u0 L) (N o402 (N o666 L L) L)) (N (o203 P) (N o0 (N o602 L L) L) (N o470 u1 L)))
noncomputable def u95 : BT := (N o1 (N o155 (N o285 (N o550 L L) L) (N o418 (N o684 L L) L)) (N o0 (N o354 u1 L) (N o0 (N o751 L L) L)))
noncomputable def u96 : BT := (N o0 (N o0 (N o265 (N o530 L L) L) u4) (N o199 (N o332 u0 L) (N o1 (N o731 L L) L)))
noncomputable def u97 (P : Params) : BT := (N o83 (N o151 (N o0 (N (o546 P) L L) L) (N o414 (N o680 L L) L)) (N o217 (N o1 (N o614 L L) L) (N o0 (N o747 L L) L)))
noncomputable def u98 : BT := (N o0 (N o143 (N o273 u0 L) (N o1 (N o670 L L) L)) (N o207 (N o340 u0 L) (N o474 (N o739 L L) L)))
noncomputable def u99 : BT := (N o78 (N o0 (N o276 u0 L) (N o409 u0 L)) (N o1 (N o343 (N o609 L L) L) (N o477 u1 L)))
noncomputable def u100 : BT := (N o70 (N o138 (N o1 (N o533 L L) L) (N o0 (N o665 L L) L)) (N o202 (N o335 (N o601 L L) L) (N o469 u0 L)))
noncomputable def u101 : BT := (N o0 (N o1 (N o0 (N o549 L L) L) (N o417 u1 L)) (N o220 (N o353 u0 L) (N o485 (N o750 L L) L)))
noncomputable def u102 (P : Params) : BT := (N o66 (N (o134 P) (N o264 (N o529 L L) L) (N o397 (N o661 L L) L)) (N o0 (N o331 (N o597 L L) L) u4))
noncomputable def u103 : BT := (N o0 (N o150 (N o280 (N o545 L L) L) (N o1 (N o679 L L) L)) (N o216 u4 (N o481 (N o746 L L) L)))
noncomputable def u104 : BT := (N o74 (N o0 (N o272 (N o537 L L) L) (N o0 (N o669 L L) L)) (N o206 (N o339 (N o605 L L) L) (N o1 (N o738 L L) L)))
noncomputable def u105 (P : Params) : BT := (N o1 (N o148 (N o278 (N o543 L L) L) (N o411 (N (o677 P) L L) L)) (N o0 (N o345 u1 L) u4))
noncomputable def u106 (P : Params) : BT := (N o0 (N o1 (N o0 (N o535 L L) L) (N o403 (N (o667 P) L L) L)) (N o204 (N o337 u0 L) (N o471 (N o736 L L) L)))
noncomputable def u107 : BT := (N o88 (N o0 (N o286 (N o551 L L) L) u4) (N o222 (N o355 (N o619 L L) L) (N o1 (N o752 L L) L)))
noncomputable def u108 (P : Params) : BT := (N (o68 P) (N o136 (N o266 u0 L) (N o1 (N o663 L L) L)) (N o200 u3 (N o467 (N o732 L L) L)))
noncomputable def u109 : BT := (N o84 (N o152 (N o1 (N o547 L L) L) (N o0 (N o681 L L) L)) (N o0 (N o351 (N o615 L L) L) (N o483 (N o748 L L) L)))
noncomputable def u110 (P : Params) : BT := (N o76 (N o144 u3 (N o407 (N o671 L L) L)) (N o208 (N (o341 P) (N o607 L L) L) (N o0 (N o740 L L) L)))
noncomputable def u111 (P : Params) : BT := (N o15 (N o127 (N o259 u0 (N o792 L L)) (N o1 (N o656 L L) L)) (N o193 u3 (N (o460 P) (N o725 L L) L)))
noncomputable def u112 : BT := (N o65 (N o15 (N o0 (N o528 L L) (N o796 L L)) (N o396 u1 L)) (N o197 (N o330 (N o596 L L) L) (N o464 (N o729 L L) L)))
noncomputable def u113 : BT := (N o0 (N o1 (N o0 (N o588 L L) L) (N o454 (N o15 L L) L)) (N o255 (N o388 u0 L) u4))
noncomputable def u114 : BT := (N o0 (N o129 (N o1 (N o526 L L) (N o794 L L)) (N o0 (N o658 L L) L)) (N o0 (N o328 u0 L) (N o462 u0 L)))
noncomputable def u115 : BT := (N o121 (N o187 (N o1 (N o586 L L) L) (N o0 (N o716 L L) L)) (N o0 (N o386 (N o650 L L) L) (N o1 u1 L)))
noncomputable def u116 : BT := (N o0 (N o0 (N o324 (N o590 L L) L) u4) (N o257 (N o390 (N o654 L L) L) (N o522 (N o790 L L) L)))
noncomputable def u117 (P : Params) : BT := (N (o62 P) (N o128 (N o0 u1 (N (o793 P) L L)) (N o393 (N o657 L L) L)) (N o194 (N o1 (N o593 L L) L) (N o0 (N o726 L L) L)))
noncomputable def u118 (P : Params) : BT := (N o1 (N o190 (N o323 (N o589 L L) L) (N o455 (N (o722 P) L L) L)) (N o0 (N o389 u1 L) (N o521 (N o789 L L) L)))
noncomputable def u119 : BT := (N o1 (N o0 (N o262 u0 (N o795 L L)) (N o395 u0 L)) (N o1 (N o0 (N o595 L L) L) (N o463 u1 L)))
noncomputable def u120 : BT := (N o122 (N o0 (N o321 u0 L) (N o453 (N o720 L L) L)) (N o1 (N o0 (N o651 L L) L) (N o519 (N o787 L L) L)))
noncomputable def u121 : BT := (N o0 (N o192 (N o325 u0 L) (N o15 (N o724 L L) L)) (N o258 u4 (N o523 (N o791 L L) L)))
noncomputable def u122 : BT := (N o0 (N o185 (N o318 u0 (N o851 L L)) (N o1 (N o714 L L) L)) (N o251 u4 (N o516 (N o784 L L) L)))
noncomputable def u123 : BT := (N o113 (N o0 (N o314 u0 (N o847 L L)) (N o446 (N o710 L L) L)) (N o1 (N o0 (N o644 L L) L) (N o0 (N o780 L L) L)))
noncomputable def u124 : BT := (N o111 (N o179 (N o0 u1 (N o845 L L)) (N o444 (N o708 L L) L)) (N o245 (N o1 (N o642 L L) L) (N o510 u0 L)))
noncomputable def u125 (P : Params) : BT := (N o1 (N o183 (N o316 (N o582 L L) (N (o849 P) L L)) (N o448 (N o799 L L) L)) (N o0 (N o382 u1 L) (N o514 (N o782 L L) L)))
noncomputable def u126 : BT := (N o0 (N o178 (N o311 u0 u0) (N o1 (N o707 L L) L)) (N o244 u4 (N o509 (N o777 L L) L)))
noncomputable def u127 : BT := (N o120 (N o186 (N o0 u1 (N o852 L L)) (N o451 (N o715 L L) L)) (N o252 (N o1 (N o649 L L) L) u4))
noncomputable def u128 (P : Params) : BT := (N (o134 P) (N o264 (N o529 L L) (N o720 L L)) (N o397 (N o661 L L) L))
noncomputable def u129 (P : Params) : BT := (N o0 (N o1 (N o0 (N o581 L L) (N o848 L L)) (N o447 (N (o711 P) L L) L)) (N o248 (N o381 u0 L) u7))
noncomputable def u130 (P : Params) : BT := (N o148 (N o278 (N o543 L L) (N o814 L L)) (N o411 (N (o677 P) L L) L))
noncomputable def u131 : BT := (N o112 (N o180 (N o1 (N o579 L L) (N o846 L L)) (N o0 (N o709 L L) L)) (N o0 (N o379 (N o643 L L) L) (N o511 u1 L)))
noncomputable def u132 : BT := (N o118 (N o0 (N o317 (N o583 L L) (N o850 L L)) (N o0 (N o713 L L) L)) (N o250 (N o383 (N o647 L L) L) (N o515 (N o783 L L) L)))
noncomputable def u133 : BT := (N o0 u0 u0)
noncomputable def u134 : BT := (N o127 (N o259 u0 (N o792 L L)) (N o1 (N o656 L L) u1))
noncomputable def u135 : BT := (N o0 (N o1 (N o0 (N o558 L L) (N o827 L L)) (N o424 u1 (N o959 L L))) (N o227 (N o360 u0 (N o893 L L)) (N o492 (N o760 L L) L)))
noncomputable def u136 : BT := (N o39 (N o77 (N o145 (N o1 (N o540 L L) u0) (N o0 (N o672 L L) u0)) (N o0 (N o342 (N o608 L L) (N o877 L L)) (N o476 u0 L))) (N o109 (N o0 (N o310 (N o576 L L) (N o843 L L)) u133) (N o243 (N o376 (N o640 L L) (N o909 L L)) (N o1 (N o776 L L) L))))
noncomputable def u137 : BT := (N o137 (N o0 u1 u0) (N o400 (N o664 L L) (N o935 L L)))
noncomputable def u138 : BT := (N o1 (N o169 (N o302 (N o568 L L) u1) (N o434 (N o698 L L) (N o967 L L))) (N o0 (N o368 u1 (N o901 L L)) (N o0 (N o768 L L) L)))
noncomputable def u139 (P : Params) : BT := (N o85 (N o0 (N o283 (N o548 L L) (N o819 L L)) (N o416 u0 (N o951 L L))) (N o1 (N o0 (N o616 L L) u0) (N o484 (N (o749 P) L L) L)))
noncomputable def u140 : BT := (N o15 (N o0 (N o528 L L) (N o796 L L)) (N o396 u1 (N o931 L L)))
noncomputable def u141 : BT := (N o97 (N o165 (N o0 (N o15 L L) (N o831 L L)) (N o430 (N o694 L L) (N o963 L L))) (N o231 (N o1 (N o628 L L) u1) u4))
noncomputable def u142 : BT := (N o15 (N o81 (N o0 (N o279 (N o544 L L) u0) u133) (N o215 (N o346 (N o612 L L) (N o881 L L)) (N o1 (N o745 L L) L))) (N o113 (N o0 (N o314 u0 (N o847 L L)) (N o446 (N o710 L L) (N o979 L L))) (N o1 (N o0 (N o644 L L) u0) (N o0 (N o780 L L) L))))
noncomputable def u143 : BT := (N o35 (N o1 (N o141 (N o271 (N o536 L L) (N o807 L L)) (N o404 (N o668 L L) (N o939 L L))) (N o205 (N o338 u1 (N o873 L L)) u4)) (N o105 (N o173 (N o1 (N o572 L L) (N o839 L L)) (N o0 (N o702 L L) u0)) (N o0 (N o372 (N o636 L L) (N o905 L L)) (N o504 u1 L))))
noncomputable def u144 : BT := (N o0 (N o157 (N o287 u0 u1) (N o1 (N o686 L L) u1)) (N o223 u133 (N o488 (N o720 L L) L)))
noncomputable def u145 : BT := (N o129 (N o1 (N o526 L L) (N o794 L L)) (N o0 (N o658 L L) u0))
noncomputable def u146 : BT := (N o95 (N o0 (N o296 (N o560 L L) u0) u133) (N o229 (N o362 (N o626 L L) (N o895 L L)) (N o1 (N o762 L L) L)))
noncomputable def u147 : BT := (N o41 (N o0 (N o1 (N o0 (N o542 L L) (N o813 L L)) (N o410 (N o15 L L) (N o945 L L))) (N o213 (N o344 u0 (N o879 L L)) (N o478 (N o743 L L) L))) (N o111 (N o179 (N o0 u1 (N o845 L L)) (N o444 (N o708 L L) (N o977 L L))) (N o245 (N o1 (N o642 L L) u1) (N o510 u0 L))))
noncomputable def u148 (P : Params) : BT := (N o33 (N o71 (N o0 (N o269 u0 (N o805 L L)) (N o402 (N o666 L L) (N o937 L L))) (N (o203 P) (N o0 (N o602 L L) u1) (N o470 u1 L))) (N o0 (N o171 (N o304 u0 u0) (N o1 (N o700 L L) u1)) (N o237 (N o0 u0 (N o903 L L)) (N o502 (N o770 L L) L))))
noncomputable def u149 : BT := (N o1 (N o155 (N o285 (N o550 L L) (N o821 L L)) (N o418 (N o684 L L) (N o953 L L))) (N o0 (N o354 u1 (N o887 L L)) (N o0 (N o751 L L) L)))
noncomputable def u150 : BT := (N o99 (N o0 (N o300 u0 (N o833 L L)) (N o432 u0 (N o965 L L))) (N o1 (N o0 (N o630 L L) u0) (N o498 (N o766 L L) L)))
noncomputable def u151 (P : Params) : BT := (N o0 (N o83 (N o151 (N o0 (N (o546 P) L L) (N o817 L L)) (N o414 (N o680 L L) (N o949 L L))) (N o217 (N o1 (N o614 L L) u1) (N o0 (N o747 L L) L))) (N o1 (N o183 (N o316 (N o582 L L) (N (o849 P) L L)) (N o448 (N o799 L L) (N o981 L L))) (N o0 (N o382 u1 (N o917 L L)) (N o514 (N o782 L L) L))))
noncomputable def u152 (P : Params) : BT := (N (o37 P) (N o0 (N o143 (N o273 u0 u1) (N o1 (N o670 L L) u1)) (N o207 (N o340 u0 u0) (N o474 (N o739 L L) L))) (N o0 (N o1 (N o0 (N o574 L L) u0) (N o440 u1 (N o973 L L))) (N o241 (N o374 u0 (N o907 L L)) (N o506 u0 L))))
noncomputable def u153 (P : Params) : BT := (N o91 (N o159 (N o15 (N o556 L L) u0) (N o0 (N o688 L L) u0)) (N o0 (N o358 (N o622 L L) (N o891 L L)) (N o490 (N (o758 P) L L) L)))
noncomputable def u154 (P : Params) : BT := (N o128 (N o0 u1 (N (o793 P) L L)) (N o393 (N o657 L L) (N o928 L L)))
noncomputable def u155 : BT := (N o1 (N o162 (N o295 (N o559 L L) (N o828 L L)) (N o425 (N o691 L L) (N o960 L L))) (N o0 (N o361 u1 (N o894 L L)) (N o0 (N o761 L L) L)))
noncomputable def u156 : BT := (N o40 (N o78 (N o0 (N o276 u0 (N o812 L L)) (N o409 u0 (N o944 L L))) (N o1 (N o343 (N o609 L L) u0) (N o477 u1 L))) (N o0 (N o178 (N o311 u0 u0) (N o1 (N o707 L L) u1)) (N o244 u133 (N o509 (N o777 L L) L))))
noncomputable def u157 : BT := (N o138 (N o1 (N o533 L L) (N o804 L L)) (N o0 (N o665 L L) u0))
noncomputable def u158 : BT := (N o102 (N o0 (N o303 (N o569 L L) (N o836 L L)) u133) (N o236 (N o369 (N o633 L L) (N o902 L L)) (N o1 (N o769 L L) L)))
noncomputable def u159 : BT := (N o0 (N o1 (N o0 (N o549 L L) (N o820 L L)) (N o417 u1 (N o952 L L))) (N o220 (N o353 u0 (N o886 L L)) (N o485 (N o750 L L) L)))
noncomputable def u160 (P : Params) : BT := (N (o134 P) (N o264 (N o529 L L) (N o720 L L)) (N o397 (N o661 L L) (N o932 L L)))
noncomputable def u161 (P : Params) : BT := (N o98 (N o166 (N o1 (N (o565 P) L L) (N o832 L L)) (N o0 (N o695 L L) u0)) (N o0 (N o365 (N o629 L L) (N o898 L L)) (N o497 u1 L)))
noncomputable def u162 (P : Params) : BT := (N (o47 P) (N o0 (N o150 (N o280 (N o545 L L) u1) (N o1 (N o679 L L) u1)) (N o216 u133 (N o481 (N o746 L L) L))) (N o0 (N o1 (N o0 (N o581 L L) (N o848 L L)) (N o447 (N (o711 P) L L) (N o980 L L))) (N o248 (N o381 u0 (N o916 L L)) u7)))
noncomputable def u163 : BT := (N o36 (N o74 (N o0 (N o272 (N o537 L L) u0) (N o0 (N o669 L L) u0)) (N o206 (N o339 (N o605 L L) (N o874 L L)) (N o1 (N o738 L L) L))) (N o106 (N o0 (N o307 u0 (N o840 L L)) (N o439 u0 (N o972 L L))) (N o1 (N o0 (N o637 L L) (N o906 L L)) (N o505 (N o773 L L) L))))
noncomputable def u164 : BT := (N o90 (N o158 (N o0 u1 (N o824 L L)) (N o421 (N o687 L L) (N o956 L L))) (N o224 (N o1 (N o621 L L) u1) (N o0 (N o15 L L) L)))
noncomputable def u165 : BT := (N o0 (N o262 u0 (N o795 L L)) (N o395 u0 (N o930 L L)))
noncomputable def u166 : BT := (N o0 (N o164 (N o297 u0 u1) (N o1 (N o693 L L) u1)) (N o230 u133 (N o495 (N o763 L L) L)))
noncomputable def u167 (P : Params) : BT := (N o45 (N o1 (N o148 (N o278 (N o543 L L) (N o814 L L)) (N o411 (N (o677 P) L L) (N o946 L L))) (N o0 (N o345 u1 (N o880 L L)) u4)) (N o112 (N o180 (N o1 (N o579 L L) (N o846 L L)) (N o0 (N o709 L L) u0)) (N o0 (N o379 (N o643 L L) (N o914 L L)) (N o511 u1 L))))
noncomputable def u168 (P : Params) : BT := (N o34 (N o0 (N o1 (N o0 (N o535 L L) (N o806 L L)) (N o403 (N (o667 P) L L) (N o938 L L))) (N o204 (N o337 u0 (N o872 L L)) (N o471 (N o736 L L) L))) (N o104 (N o172 (N o0 u1 (N o838 L L)) (N o437 (N o701 L L) (N o970 L L))) (N o238 (N o1 (N o635 L L) (N (o904 P) L L)) u4)))
noncomputable def u169 : BT := (N o88 (N o0 (N o286 (N o551 L L) u0) u133) (N o222 (N o355 (N o619 L L) (N o888 L L)) (N o1 (N o752 L L) L)))
noncomputable def u170 (P : Params) : BT := (N o136 (N o266 u0 (N (o802 P) L L)) (N o1 (N o663 L L) u1))
noncomputable def u171 : BT := (N o0 (N o1 (N o0 (N o567 L L) u0) (N o433 u1 (N o966 L L))) (N o234 (N o367 u0 (N o900 L L)) (N o499 u0 L)))
noncomputable def u172 : BT := (N o84 (N o152 (N o1 (N o547 L L) u0) (N o0 (N o681 L L) u0)) (N o0 (N o351 (N o615 L L) (N o884 L L)) (N o483 (N o748 L L) L)))
noncomputable def u173 (P : Params) : BT := (N o59 (N o76 (N o144 (N o0 u1 (N o810 L L)) (N o407 (N o671 L L) (N o942 L L))) (N o208 (N (o341 P) (N o607 L L) u1) (N o0 (N o740 L L) L))) (N o1 (N o176 (N o309 (N o575 L L) u1) (N o441 (N o705 L L) (N o974 L L))) (N o0 (N o375 u1 (N o908 L L)) (N o0 (N o775 L L) L))))
noncomputable def u174 (P : Params) : BT := (N o92 (N o0 (N (o293 P) u0 (N o826 L L)) (N o423 u0 (N o958 L L))) (N o1 (N o0 (N o623 L L) u0) (N o491 u0 L)))
noncomputable def t0 (P : Params) : BT := (N (boot_o_0 P) (N (boot_o_1 P) (N (boot_o_3 P) (N (boot_o_7 P) L L) u0) (N (boot_o_5 P) (N (boot_o_9 P) L L) (N o2 L L))) (N (boot_o_2 P) (N (boot_o_4 P) (N (boot_o_8 P) L L) u1) (N (boot_o_6 P) (N (boot_o_10 P) L L) (N o3 L L))))
noncomputable def t1 (P : Params) : BT := (N (boot_o_0 P) (N (boot_o_1 P) (N (o5 P) (N (boot_o_7 P) (N o0 u1 (N o39 L L)) (N o15 (N o31 L L) L)) (N o0 (N o11 (N o27 L L) L) (N o19 (N o35 L L) L))) (N (boot_o_5 P) (N (boot_o_9 P) (N o9 u0 (N o41 L L)) (N o0 (N o33 L L) L)) (N o2 (N o13 u0 L) (N o21 (N (o37 P) L L) L)))) (N (o4 P) (N (boot_o_4 P) (N (boot_o_8 P) (N o1 (N o24 L L) (N o40 L L)) (N (o16 P) u0 L)) (N o6 (N o12 (N o28 L L) L) (N o20 (N o36 L L) L))) (N (boot_o_6 P) (N (boot_o_10 P) (N o0 (N o26 L L) L) (N o18 (N o34 L L) L)) (N o3 (N o14 u1 L) (N o0 (N o38 L L) L)))))
noncomputable def t2 (P : Params) : BT := (N (boot_o_0 P) (N (boot_o_1 P) (N (o42 P) (N (boot_o_7 P) (N o0 u1 (N o39 L L)) (N o15 (N o31 L L) (N o50 L L))) (N o0 (N o11 (N o27 L L) (N o15 L L)) (N o19 (N o35 L L) (N o54 L L)))) (N (boot_o_5 P) (N (boot_o_9 P) (N o9 u0 (N o41 L L)) (N o0 (N o33 L L) u0)) (N o2 (N o13 u0 u0) (N o21 (N (o37 P) L L) (N o56 L L))))) (N (o4 P) (N (boot_o_4 P) (N (boot_o_8 P) (N o1 (N o24 L L) (N o40 L L)) (N (o16 P) u0 (N o51 L L))) (N o43 (N o12 (N o28 L L) (N (o47 P) L L)) (N o20 (N o36 L L) (N o55 L L)))) (N (boot_o_6 P) (N (boot_o_10 P) (N o0 (N o26 L L) (N o45 L L)) (N o18 (N o34 L L) (N (o53 P) L L))) (N o3 (N o14 u1 u1) (N o0 (N o44 L L) L)))))
noncomputable def t3 (P : Params) : BT := (N (boot_o_0 P) (N (boot_o_1 P) (N (o57 P) (N (boot_o_7 P) (N o0 (N o1 (N o15 L L) u0) (N o39 (N o77 L L) (N o109 L L))) (N o15 (N o31 (N o69 L L) u1) (N o50 (N o85 L L) L))) (N o0 u2 (N o19 (N o35 u1 (N o105 L L)) (N o54 u0 L)))) (N (boot_o_5 P) (N (boot_o_9 P) (N o9 (N o0 u0 (N o95 L L)) (N o41 u0 (N o111 L L))) (N o0 (N o33 (N o71 L L) u0) u3)) (N o2 (N o13 (N o0 u0 (N o99 L L)) (N o0 (N o83 L L) L)) (N o21 (N (o37 P) u0 u0) (N o56 (N o91 L L) L))))) (N (o4 P) (N (boot_o_4 P) (N (boot_o_8 P) (N o1 (N o24 (N (o62 P) L L) u1) (N o40 (N o78 L L) u0)) (N (o16 P) (N o0 (N o70 L L) (N o102 L L)) (N o51 u0 L))) (N o58 (N o12 (N o28 (N o66 L L) (N o98 L L)) (N (o47 P) u0 L)) (N o20 (N o36 (N o74 L L) (N o106 L L)) (N o55 (N o90 L L) L)))) (N (boot_o_6 P) (N (boot_o_10 P) (N o0 (N o26 u1 u0) (N o45 u1 (N o112 L L))) (N o18 (N o34 u0 (N o104 L L)) (N (o53 P) (N o88 L L) L))) (N o3 (N o14 (N o1 (N (o68 P) L L) u0) (N o1 (N o84 L L) L)) (N o0 (N o59 (N o76 L L) u1) (N o45 (N o92 L L) L))))))
noncomputable def t4 (P : Params) : BT := (N (boot_o_0 P) (N (boot_o_1 P) (N (o114 P) (N (boot_o_7 P) (N o0 (N o1 (N o15 (N o127 L L) L) u0) (N o39 (N o77 L L) (N o109 L L))) (N o15 (N o31 (N o69 L L) u1) (N o50 (N o85 L L) u0))) (N o0 u2 (N o19 (N o35 u1 (N o105 L L)) (N o54 u0 u0)))) (N (boot_o_5 P) (N (boot_o_9 P) (N o9 (N o0 (N o0 (N o129 L L) L) (N o95 L L)) (N o41 u0 (N o111 L L))) (N o0 (N o33 (N o71 L L) u0) (N o0 u1 (N o121 L L)))) (N o2 (N o13 (N o0 u0 (N o99 L L)) (N o0 (N o83 L L) u1)) (N o21 (N (o37 P) u0 u0) (N o56 (N o91 L L) u0))))) (N (o4 P) (N (boot_o_4 P) (N (boot_o_8 P) (N o1 (N o24 (N (o62 P) (N o128 L L) L) u1) (N o40 (N o78 L L) u0)) (N (o16 P) (N o0 (N o70 L L) (N o102 L L)) (N o51 u0 (N o120 L L)))) (N o115 (N o12 (N o28 (N o66 L L) (N o98 L L)) (N (o47 P) u0 u0)) (N o20 (N o36 (N o74 L L) (N o106 L L)) (N o55 (N o90 L L) u1)))) (N (boot_o_6 P) (N (boot_o_10 P) (N o0 (N o26 u1 u0) (N o45 u1 (N o112 L L))) (N o18 (N o34 u0 (N o104 L L)) (N (o53 P) (N o88 L L) (N o122 L L)))) (N o3 (N o14 (N o1 (N (o68 P) L L) u0) (N o1 (N o84 L L) (N o118 L L))) (N o0 (N o59 (N o76 L L) u1) (N o45 (N o92 L L) u0))))))
noncomputable def t5 (P : Params) : BT := (N (boot_o_0 P) (N (boot_o_1 P) (N (o130 P) (N (boot_o_7 P) (N o0 (N o1 (N o15 (N o127 L L) (N o193 L L)) u3) (N o39 (N o77 (N o145 L L) L) (N o109 u0 L))) (N o15 (N o31 (N o69 (N o137 L L) (N o201 L L)) (N o1 (N o169 L L) L)) (N o50 (N o85 u0 L) (N o0 (N o185 L L) L)))) (N o0 (N o11 (N o27 (N o65 (N o15 L L) (N o197 L L)) (N o97 (N o165 L L) L)) (N o15 (N o81 u0 L) (N o113 u0 L))) (N o19 (N o35 (N o1 (N o141 L L) (N o205 L L)) (N o105 (N o173 L L) L)) (N o54 (N o0 (N o157 L L) L) u3)))) (N (boot_o_5 P) (N (boot_o_9 P) (N o9 (N o0 (N o0 (N o129 L L) u0) (N o95 u0 L)) (N o41 u3 (N o111 (N o179 L L) L))) (N o0 (N o33 (N o71 u0 (N (o203 P) L L)) (N o0 (N o171 L L) L)) (N o0 (N o1 (N o155 L L) L) (N o121 (N o187 L L) L)))) (N o2 (N o13 (N o0 (N o0 u0 (N o199 L L)) (N o99 u0 L)) (N o0 (N o83 (N o151 L L) L) (N o1 (N o183 L L) L))) (N o21 (N (o37 P) (N o0 (N o143 L L) (N o207 L L)) u3) (N o56 (N o91 (N o159 L L) L) u4))))) (N (o4 P) (N (boot_o_4 P) (N (boot_o_8 P) (N o1 (N o24 (N (o62 P) (N o128 L L) (N o194 L L)) (N o1 (N o162 L L) L)) (N o40 (N o78 u0 L) (N o0 (N o178 L L) L))) (N (o16 P) (N o0 (N o70 (N o138 L L) (N o202 L L)) (N o102 u0 L)) (N o51 u3 (N o120 (N o186 L L) L)))) (N o131 (N o12 (N o28 (N o66 (N (o134 P) L L) u0) (N o98 (N o166 L L) L)) (N (o47 P) (N o0 (N o150 L L) L) u3)) (N o20 (N o36 (N o74 u0 (N o206 L L)) (N o106 u0 L)) (N o55 (N o90 (N o158 L L) L) (N o1 (N o190 L L) L))))) (N (boot_o_6 P) (N (boot_o_10 P) (N o0 (N o26 (N o1 u0 u1) (N o0 (N o164 L L) L)) (N o45 (N o1 (N o148 L L) L) (N o112 (N o180 L L) L))) (N o18 (N o34 (N o0 u1 (N o204 L L)) (N o104 (N o172 L L) L)) (N (o53 P) (N o88 u0 L) (N o122 u0 L)))) (N o3 (N o14 (N o1 (N (o68 P) (N o136 L L) (N o200 L L)) u3) (N o1 (N o84 (N o152 L L) L) (N o118 u0 L))) (N o0 (N o59 (N o76 (N o144 L L) (N o208 L L)) (N o1 (N o176 L L) L)) (N o45 (N o92 u0 L) (N o0 (N o192 L L) L)))))))
noncomputable def t6 (P : Params) : BT := (N (boot_o_0 P) (N (boot_o_1 P) (N (o209 P) (u5 P) u6) (u8 P)) (u9 P))
noncomputable def t7 (P : Params) : BT := (N (boot_o_0 P) (N (boot_o_1 P) (N (o288 P) (u5 P) u6) (u8 P)) (u9 P))
noncomputable def t8 (P : Params) : BT := (N (boot_o_0 P) (N (boot_o_1 P) (N (o289 P) (N (boot_o_7 P) (N o0 (N o1 (N o15 (N o127 (N o259 L L) L) (N o193 u0 L)) (N o0 u7 (N o227 L L))) (N o39 (N o77 (N o145 u1 L) (N o0 (N o342 L L) L)) (N o109 (N o0 (N o310 L L) L) (N o243 L L)))) (N o15 (N o31 (N o69 (N o137 u0 L) (N o201 u1 L)) (N o1 (N o169 (N o302 L L) L) u0)) (N o50 (N o85 (N o0 (N o283 L L) L) u1) (N o0 (N o185 (N o318 L L) L) (N o251 L L))))) (N o0 (N o11 (N o27 (N o65 (N o15 u0 L) (N o197 (N o330 L L) L)) (N o97 (N o165 u0 L) (N o231 L L))) (N o15 (N o81 (N o0 (N o279 L L) L) (N o215 (N o346 L L) L)) (N o113 (N o0 (N o314 L L) L) u1))) (N o19 (N o35 (N o1 (N o141 (N o271 L L) L) (N o205 (N o338 L L) L)) (N o105 (N o173 u1 L) u0)) (N o54 (N o0 (N o157 (N o287 L L) L) (N o223 L L)) (N o0 u7 (N o255 L L)))))) (N (boot_o_5 P) (N (boot_o_9 P) (N o9 (N o0 (N o0 (N o129 u1 L) (N o0 (N o328 L L) L)) (N o95 (N o0 (N o296 L L) L) (N o229 L L))) (N o41 (N o0 u7 (N o213 (N o344 L L) L)) (N o111 (N o179 u0 L) (N o245 L L)))) (N o0 (N o33 (N o71 (N o0 (N o269 L L) L) (N (o203 P) u0 L)) (N o0 (N o171 (N o304 L L) L) (N o237 L L))) (N o0 (N o1 (N o155 (N o285 L L) L) u0) (N o121 (N o187 u1 L) u0)))) (N o2 (N o13 (N o0 (N o0 (N o0 (N o265 L L) L) (N o199 (N o332 L L) L)) (N o99 (N o0 (N o300 L L) L) u1)) (N o0 (N o83 (N o151 u0 L) (N o217 L L)) (N o1 (N o183 (N o316 L L) L) u0))) (N o21 (N (o37 P) (N o0 (N o143 (N o273 L L) L) (N o207 (N o340 L L) L)) (N o0 u7 (N o241 L L))) (N o56 (N o91 (N o159 (N o15 L L) L) u0) (N o0 (N o0 (N o324 L L) L) (N o257 L L))))))) (N (o4 P) (N (boot_o_4 P) (N (boot_o_8 P) (N o1 (N o24 (N (o62 P) (N o128 u0 L) (N o194 u1 L)) (N o1 (N o162 (N o295 L L) L) u0)) (N o40 (N o78 (N o0 (N o276 L L) L) (N o1 (N o343 L L) L)) (N o0 (N o178 (N o311 L L) L) (N o244 L L)))) (N (o16 P) (N o0 (N o70 (N o138 u1 L) (N o202 (N o335 L L) L)) (N o102 (N o0 (N o303 L L) L) (N o236 L L))) (N o51 (N o0 u7 (N o220 L L)) (N o120 (N o186 u0 L) (N o252 L L))))) (N o290 (N o12 (N o28 (N o66 (N (o134 P) (N o264 L L) L) (N o0 (N o331 L L) L)) (N o98 (N o166 u1 L) u0)) (N (o47 P) (N o0 (N o150 (N o280 L L) L) (N o216 L L)) (N o0 u7 (N o248 L L)))) (N o20 (N o36 (N o74 (N o0 (N o272 L L) L) (N o206 (N o339 L L) L)) (N o106 (N o0 (N o307 L L) L) u1)) (N o55 (N o90 (N o158 u0 L) (N o224 L L)) (N o1 (N o190 (N o323 L L) L) u0))))) (N (boot_o_6 P) (N (boot_o_10 P) (N o0 (N o26 (N o1 (N o0 (N o262 L L) L) u7) (N o0 (N o164 (N o297 L L) L) (N o230 L L))) (N o45 (N o1 (N o148 (N o278 L L) L) (N o0 (N o345 L L) L)) (N o112 (N o180 u1 L) u0))) (N o18 (N o34 (N o0 u7 (N o204 (N o337 L L) L)) (N o104 (N o172 u0 L) (N o238 L L))) (N (o53 P) (N o88 (N o0 (N o286 L L) L) (N o222 L L)) (N o122 (N o0 (N o321 L L) L) u1)))) (N o3 (N o14 (N o1 (N (o68 P) (N o136 (N o266 L L) L) (N o200 u0 L)) (N o0 u7 (N o234 L L))) (N o1 (N o84 (N o152 u1 L) u0) (N o118 (N o0 (N o317 L L) L) (N o250 L L)))) (N o0 (N o59 (N o76 (N o144 u0 L) (N o208 (N (o341 P) L L) L)) (N o1 (N o176 (N o309 L L) L) u0)) (N o45 (N o92 (N o0 (N (o293 P) L L) L) u1) (N o0 (N o192 (N o325 L L) L) (N o258 L L))))))))
noncomputable def t9 (P : Params) : BT := (N (boot_o_0 P) (N (boot_o_1 P) (N (o347 P) (N (boot_o_7 P) (N o0 u10 (N o39 (N o77 (N o145 u1 u0) (N o0 (N o342 L L) L)) (N o109 (N o0 (N o310 L L) L) (N o243 (N o376 L L) L)))) (N o15 (N o31 (N o69 (N o137 u0 (N o400 L L)) (N o201 u1 L)) (N o1 (N o169 (N o302 L L) L) (N o0 (N o368 L L) L))) (N o50 (N o85 (N o0 (N o283 L L) (N o416 L L)) u7) (N o0 (N o185 (N o318 L L) L) (N o251 u0 L))))) (N o0 (N o11 (N o27 (N o65 (N o15 u0 (N o396 L L)) (N o197 (N o330 L L) L)) (N o97 (N o165 u0 L) (N o231 u1 L))) (N o15 (N o81 (N o0 (N o279 L L) u0) (N o215 (N o346 L L) L)) (N o113 (N o0 (N o314 L L) L) u7))) (N o19 (N o35 (N o1 (N o141 (N o271 L L) (N o404 L L)) (N o205 (N o338 L L) L)) (N o105 (N o173 u1 L) (N o0 (N o372 L L) L))) (N o54 (N o0 (N o157 (N o287 L L) u1) (N o223 u0 L)) (N o0 u7 (N o255 (N o388 L L) L)))))) (N (boot_o_5 P) (N (boot_o_9 P) (N o9 (N o0 (N o0 (N o129 u1 u0) (N o0 (N o328 L L) L)) (N o95 (N o0 (N o296 L L) L) (N o229 (N o362 L L) L))) (N o41 (N o0 (N o1 u0 (N o410 L L)) (N o213 (N o344 L L) L)) (N o111 (N o179 u0 L) (N o245 u1 L)))) (N o0 (N o33 (N o71 (N o0 (N o269 L L) (N o402 L L)) (N (o203 P) u0 L)) (N o0 (N o171 (N o304 L L) L) (N o237 u0 L))) (N o0 (N o1 (N o155 (N o285 L L) (N o418 L L)) (N o0 (N o354 L L) L)) (N o121 (N o187 u1 L) (N o0 (N o386 L L) L))))) (N o2 (N o13 (N o0 (N o0 (N o0 (N o265 L L) u0) (N o199 (N o332 L L) L)) (N o99 (N o0 (N o300 L L) L) u7)) (N o0 (N o83 (N o151 u0 (N o414 L L)) (N o217 u1 L)) (N o1 (N o183 (N o316 L L) L) (N o0 (N o382 L L) L)))) (N o21 (N (o37 P) (N o0 (N o143 (N o273 L L) u1) (N o207 (N o340 L L) L)) (N o0 u7 (N o241 (N o374 L L) L))) u11)))) (N (o4 P) (N (boot_o_4 P) (N (boot_o_8 P) (N o1 (u12 P) (N o40 (N o78 (N o0 (N o276 L L) (N o409 L L)) (N o1 (N o343 L L) L)) (N o0 (N o178 (N o311 L L) L) (N o244 u0 L)))) (N (o16 P) (N o0 (N o70 (N o138 u1 u0) (N o202 (N o335 L L) L)) (N o102 (N o0 (N o303 L L) L) (N o236 (N o369 L L) L))) (N o51 (N o0 (N o1 u0 (N o417 L L)) (N o220 (N o353 L L) L)) (N o120 (N o186 u0 L) (N o252 u1 L))))) (N o348 (N o12 (N o28 (N o66 (N (o134 P) (N o264 L L) (N o397 L L)) (N o0 (N o331 L L) L)) (N o98 (N o166 u1 L) (N o0 (N o365 L L) L))) (N (o47 P) (N o0 (N o150 (N o280 L L) u1) (N o216 u0 L)) (N o0 u7 (N o248 (N o381 L L) L)))) (N o20 (N o36 (N o74 (N o0 (N o272 L L) u0) (N o206 (N o339 L L) L)) (N o106 (N o0 (N o307 L L) L) u7)) (N o55 (N o90 (N o158 u0 (N o421 L L)) (N o224 u1 L)) (N o1 (N o190 (N o323 L L) L) (N o0 (N o389 L L) L)))))) (N (boot_o_6 P) (N (boot_o_10 P) (N o0 (N o26 (N o1 (N o0 (N o262 L L) (N o395 L L)) u7) (N o0 (N o164 (N o297 L L) L) (N o230 u0 L))) (N o45 (N o1 (N o148 (N o278 L L) (N o411 L L)) (N o0 (N o345 L L) L)) (N o112 (N o180 u1 L) (N o0 (N o379 L L) L)))) (N o18 (N o34 (N o0 (N o1 u0 (N o403 L L)) (N o204 (N o337 L L) L)) (N o104 (N o172 u0 L) (N o238 u1 L))) (N (o53 P) (N o88 (N o0 (N o286 L L) u0) (N o222 (N o355 L L) L)) (N o122 (N o0 (N o321 L L) L) u7)))) (N o3 (N o14 (N o1 (N (o68 P) (N o136 (N o266 L L) u1) (N o200 u0 L)) (N o0 u7 (N o234 (N o367 L L) L))) (N o1 (N o84 (N o152 u1 u0) (N o0 (N o351 L L) L)) (N o118 (N o0 (N o317 L L) L) (N o250 (N o383 L L) L)))) (N o0 (N o59 (N o76 (N o144 u0 (N o407 L L)) (N o208 (N (o341 P) L L) L)) (N o1 (N o176 (N o309 L L) L) (N o0 (N o375 L L) L))) (u13 P))))))
noncomputable def t10 (P : Params) : BT := (N (boot_o_0 P) (N (boot_o_1 P) (N (o426 P) (N (boot_o_7 P) (N o0 u10 (N o39 (N o77 (N o145 u1 u0) (N o0 (N o342 L L) L)) (N o109 (N o0 (N o310 L L) u0) (N o243 (N o376 L L) L)))) (N o15 (N o31 (N o69 (N o137 u0 (N o400 L L)) (N o201 u1 L)) (N o1 (N o169 (N o302 L L) (N o434 L L)) (N o0 (N o368 L L) L))) (N o50 (N o85 (N o0 (N o283 L L) (N o416 L L)) u7) (N o0 (N o185 (N o318 L L) u1) (N o251 u0 L))))) (N o0 (N o11 (N o27 (N o65 (N o15 u0 (N o396 L L)) (N o197 (N o330 L L) L)) (N o97 (N o165 u0 (N o430 L L)) (N o231 u1 L))) (N o15 (N o81 (N o0 (N o279 L L) u0) (N o215 (N o346 L L) L)) (N o113 (N o0 (N o314 L L) (N o446 L L)) u7))) (N o19 (N o35 (N o1 (N o141 (N o271 L L) (N o404 L L)) (N o205 (N o338 L L) L)) (N o105 (N o173 u1 u0) (N o0 (N o372 L L) L))) (N o54 (N o0 (N o157 (N o287 L L) u1) (N o223 u0 L)) (N o0 (N o1 u0 (N o454 L L)) (N o255 (N o388 L L) L)))))) (N (boot_o_5 P) (N (boot_o_9 P) (N o9 (N o0 (N o0 (N o129 u1 u0) (N o0 (N o328 L L) L)) (N o95 (N o0 (N o296 L L) u0) (N o229 (N o362 L L) L))) (N o41 (N o0 (N o1 u0 (N o410 L L)) (N o213 (N o344 L L) L)) (N o111 (N o179 u0 (N o444 L L)) (N o245 u1 L)))) (N o0 (N o33 (N o71 (N o0 (N o269 L L) (N o402 L L)) (N (o203 P) u0 L)) (N o0 (N o171 (N o304 L L) u1) (N o237 u0 L))) (N o0 (N o1 (N o155 (N o285 L L) (N o418 L L)) (N o0 (N o354 L L) L)) (N o121 (N o187 u1 u0) (N o0 (N o386 L L) L))))) (N o2 (N o13 (N o0 (N o0 (N o0 (N o265 L L) u0) (N o199 (N o332 L L) L)) (N o99 (N o0 (N o300 L L) (N o432 L L)) u7)) (N o0 (N o83 (N o151 u0 (N o414 L L)) (N o217 u1 L)) (N o1 (N o183 (N o316 L L) (N o448 L L)) (N o0 (N o382 L L) L)))) (N o21 (N (o37 P) (N o0 (N o143 (N o273 L L) u1) (N o207 (N o340 L L) L)) (N o0 (N o1 u0 (N o440 L L)) (N o241 (N o374 L L) L))) u11)))) (N (o4 P) (N (boot_o_4 P) (N (boot_o_8 P) (N o1 (u12 P) (N o40 (N o78 (N o0 (N o276 L L) (N o409 L L)) (N o1 (N o343 L L) L)) (N o0 (N o178 (N o311 L L) u1) (N o244 u0 L)))) (N (o16 P) (N o0 (N o70 (N o138 u1 u0) (N o202 (N o335 L L) L)) (N o102 (N o0 (N o303 L L) u0) (N o236 (N o369 L L) L))) (N o51 (N o0 (N o1 u0 (N o417 L L)) (N o220 (N o353 L L) L)) (N o120 (N o186 u0 (N o451 L L)) (N o252 u1 L))))) (N o427 (N o12 (N o28 (N o66 (N (o134 P) (N o264 L L) (N o397 L L)) (N o0 (N o331 L L) L)) (N o98 (N o166 u1 u0) (N o0 (N o365 L L) L))) (N (o47 P) (N o0 (N o150 (N o280 L L) u1) (N o216 u0 L)) (N o0 (N o1 u0 (N o447 L L)) (N o248 (N o381 L L) L)))) (N o20 (N o36 (N o74 (N o0 (N o272 L L) u0) (N o206 (N o339 L L) L)) (N o106 (N o0 (N o307 L L) (N o439 L L)) u7)) (N o55 (N o90 (N o158 u0 (N o421 L L)) (N o224 u1 L)) (N o1 (N o190 (N o323 L L) (N o455 L L)) (N o0 (N o389 L L) L)))))) (N (boot_o_6 P) (N (boot_o_10 P) (N o0 (N o26 (N o1 (N o0 (N o262 L L) (N o395 L L)) u7) (N o0 (N o164 (N o297 L L) u1) (N o230 u0 L))) (N o45 (N o1 (N o148 (N o278 L L) (N o411 L L)) (N o0 (N o345 L L) L)) (N o112 (N o180 u1 u0) (N o0 (N o379 L L) L)))) (N o18 (N o34 (N o0 (N o1 u0 (N o403 L L)) (N o204 (N o337 L L) L)) (N o104 (N o172 u0 (N o437 L L)) (N o238 u1 L))) (N (o53 P) (N o88 (N o0 (N o286 L L) u0) (N o222 (N o355 L L) L)) (N o122 (N o0 (N o321 L L) (N o453 L L)) u7)))) (N o3 (N o14 (N o1 (N (o68 P) (N o136 (N o266 L L) u1) (N o200 u0 L)) (N o0 (N o1 u0 (N o433 L L)) (N o234 (N o367 L L) L))) (N o1 (N o84 (N o152 u1 u0) (N o0 (N o351 L L) L)) (N o118 (N o0 (N o317 L L) u0) (N o250 (N o383 L L) L)))) (N o0 (N o59 (N o76 (N o144 u0 (N o407 L L)) (N o208 (N (o341 P) L L) L)) (N o1 (N o176 (N o309 L L) (N o441 L L)) (N o0 (N o375 L L) L))) (u13 P))))))
noncomputable def t11 (P : Params) : BT := (N (boot_o_0 P) (N (boot_o_1 P) (N (o456 P) (N (boot_o_7 P) (N o0 (N o1 (u14 P) (N o0 (N o1 u0 (N o424 L L)) (N o227 (N o360 L L) (N o492 L L)))) u15) u16) (N o0 u17 (N o19 u18 (N o54 (N o0 (N o157 (N o287 L L) u1) (N o223 u0 (N o488 L L))) (N o0 (N o1 u0 (N o454 L L)) (N o255 (N o388 L L) u0)))))) (N (boot_o_5 P) (N (boot_o_9 P) (N o9 (N o0 u19 (N o95 (N o0 (N o296 L L) u0) (N o229 (N o362 L L) u1))) u20) (u21 P)) (N o2 (u22 P) (N o21 (u23 P) (N o56 (N o91 (N o159 (N o15 L L) u0) (N o0 (N o358 L L) (N o490 L L))) u24))))) (N (o4 P) (N (boot_o_4 P) (N (boot_o_8 P) (N o1 (N o24 (u25 P) (N o1 (N o162 (N o295 L L) (N o425 L L)) (N o0 (N o361 L L) u0))) u26) (u27 P)) (N o457 (u28 P) (N o20 u29 (N o55 (N o90 (N o158 u0 (N o421 L L)) (N o224 u1 u0)) u30)))) (N (boot_o_6 P) (u31 P) (N o3 (u32 P) (N o0 (u33 P) (N o45 (N o92 (N o0 (N (o293 P) L L) (N o423 L L)) (N o1 u0 (N o491 L L))) u34))))))
noncomputable def t12 (P : Params) : BT := (N (boot_o_0 P) (N (boot_o_1 P) (N (o552 P) (N (boot_o_7 P) (N o0 (N o1 (u14 P) (N o0 (N o1 (N o0 (N o558 L L) L) (N o424 L L)) (N o227 (N o360 L L) (N o492 L L)))) u15) u16) (N o0 u17 (N o19 u18 (N o54 (N o0 (N o157 (N o287 u0 L) u1) (N o223 u0 (N o488 L L))) (N o0 (N o1 u0 (N o454 L L)) (N o255 (N o388 L L) u0)))))) (N (boot_o_5 P) (N (boot_o_9 P) (N o9 (N o0 u19 (N o95 (N o0 (N o296 (N o560 L L) L) u0) (N o229 (N o362 L L) u1))) u20) (u21 P)) (N o2 (u22 P) (N o21 (u23 P) (N o56 (N o91 (N o159 (N o15 (N o556 L L) L) u0) (N o0 (N o358 L L) (N o490 L L))) u24))))) (N (o4 P) (N (boot_o_4 P) (N (boot_o_8 P) (N o1 (N o24 (u25 P) (N o1 (N o162 (N o295 (N o559 L L) L) (N o425 L L)) (N o0 (N o361 L L) u0))) u26) (u27 P)) (N o553 (u28 P) (N o20 u29 (N o55 (N o90 (N o158 u3 (N o421 L L)) (N o224 u1 u0)) u30)))) (N (boot_o_6 P) (u31 P) (N o3 (u32 P) (N o0 (u33 P) (N o45 (N o92 (N o0 (N (o293 P) u0 L) (N o423 L L)) (N o1 u0 (N o491 L L))) u34))))))
noncomputable def t13 (P : Params) : BT := (N (boot_o_0 P) (N (boot_o_1 P) (N (o561 P) (N (boot_o_7 P) (N o0 (N o1 (u35 P) (N o0 (N o1 (N o0 (N o558 L L) L) (N o424 L L)) (N o227 (N o360 u0 L) (N o492 L L)))) (N o39 u36 (N o109 (N o0 (N o310 (N o576 L L) L) u0) (N o243 (N o376 (N o640 L L) L) u1)))) (N o15 (N o31 u37 (N o1 (N o169 (N o302 (N o568 L L) L) (N o434 L L)) (N o0 (N o368 u1 L) u0))) (N o50 (N o85 (N o0 (N o283 (N o548 L L) L) (N o416 L L)) (N o1 (N o0 (N o616 L L) L) (N o484 L L))) (N o0 (N o185 (N o318 u0 L) u1) (N o251 u4 (N o516 L L)))))) (N o0 (N o11 (N o27 u38 (N o97 (N o165 (N o0 (N o15 L L) L) (N o430 L L)) (N o231 (N o1 (N o628 L L) L) u0))) (N o15 (N o81 (N o0 (N o279 (N o544 L L) L) u0) (N o215 (N o346 (N o612 L L) L) u1)) (N o113 (N o0 (N o314 u0 L) (N o446 L L)) (N o1 (N o0 (N o644 L L) L) u0)))) (N o19 (N o35 u39 (N o105 (N o173 (N o1 (N o572 L L) L) u0) (N o0 (N o372 (N o636 L L) L) (N o504 L L)))) (N o54 (N o0 (N o157 (N o287 u0 L) u1) (N o223 u4 (N o488 L L))) u40)))) (N (boot_o_5 P) (N (boot_o_9 P) (N o9 (N o0 u41 (N o95 (N o0 (N o296 (N o560 L L) L) u0) (N o229 (N o362 (N o626 L L) L) u1))) (N o41 (N o0 (N o1 (N o0 (N o542 L L) L) (N o410 L L)) (N o213 (N o344 u0 L) (N o478 L L))) (N o111 (N o179 u3 (N o444 L L)) (N o245 (N o1 (N o642 L L) L) (N o510 L L))))) (N o0 (N o33 (u42 P) (N o0 (N o171 (N o304 u0 L) u1) (N o237 u4 (N o502 L L)))) (N o0 (N o1 (N o155 (N o285 (N o550 L L) L) (N o418 L L)) (N o0 (N o354 u1 L) u0)) (N o121 (N o187 (N o1 (N o586 L L) L) u0) (N o0 (N o386 (N o650 L L) L) u1))))) (N o2 (N o13 (N o0 u43 (N o99 (N o0 (N o300 u0 L) (N o432 L L)) (N o1 (N o0 (N o630 L L) L) (N o498 L L)))) (N o0 (N o83 (N o151 (N o0 (N (o546 P) L L) L) (N o414 L L)) (N o217 (N o1 (N o614 L L) L) u0)) (N o1 (N o183 (N o316 (N o582 L L) L) (N o448 L L)) u44))) (N o21 (N (o37 P) u45 (N o0 (N o1 (N o0 (N o574 L L) L) (N o440 L L)) (N o241 (N o374 u0 L) (N o506 L L)))) (N o56 (N o91 (N o159 (N o15 (N o556 L L) L) u0) (N o0 (N o358 (N o622 L L) L) (N o490 L L))) u46))))) (N (o4 P) (N (boot_o_4 P) (N (boot_o_8 P) (N o1 (N o24 (u47 P) (N o1 (N o162 (N o295 (N o559 L L) L) (N o425 L L)) (N o0 (N o361 u1 L) u0))) (N o40 (N o78 (N o0 (N o276 u0 L) (N o409 L L)) (N o1 (N o343 (N o609 L L) L) (N o477 L L))) (N o0 (N o178 (N o311 u0 L) u1) (N o244 u4 (N o509 L L))))) (N (o16 P) (N o0 u48 (N o102 (N o0 (N o303 (N o569 L L) L) u0) (N o236 (N o369 (N o633 L L) L) u1))) (N o51 (N o0 (N o1 (N o0 (N o549 L L) L) (N o417 L L)) (N o220 (N o353 u0 L) (N o485 L L))) (N o120 (N o186 u3 (N o451 L L)) (N o252 (N o1 (N o649 L L) L) u0))))) (N o562 (N o12 (N o28 (u49 P) (N o98 (N o166 (N o1 (N (o565 P) L L) L) u0) (N o0 (N o365 (N o629 L L) L) (N o497 L L)))) (N (o47 P) (N o0 (N o150 (N o280 (N o545 L L) L) u1) (N o216 u4 (N o481 L L))) (N o0 (N o1 (N o0 (N o581 L L) L) (N o447 L L)) (N o248 (N o381 u0 L) u1)))) (N o20 (N o36 u50 (N o106 (N o0 (N o307 u0 L) (N o439 L L)) (N o1 (N o0 (N o637 L L) L) (N o505 L L)))) (N o55 (N o90 (N o158 u3 (N o421 L L)) (N o224 (N o1 (N o621 L L) L) u0)) u51)))) (N (boot_o_6 P) (N (boot_o_10 P) (N o0 (N o26 u52 (N o0 (N o164 (N o297 u0 L) u1) (N o230 u4 (N o495 L L)))) (N o45 (N o1 (N o148 (N o278 (N o543 L L) L) (N o411 L L)) (N o0 (N o345 u1 L) u0)) (N o112 (N o180 (N o1 (N o579 L L) L) u0) (N o0 (N o379 (N o643 L L) L) (N o511 L L))))) (N o18 (N o34 (u53 P) (N o104 (N o172 u3 (N o437 L L)) (N o238 (N o1 (N o635 L L) L) u0))) (N (o53 P) (N o88 (N o0 (N o286 (N o551 L L) L) u0) (N o222 (N o355 (N o619 L L) L) u1)) u54))) (N o3 (N o14 (N o1 (u55 P) (N o0 (N o1 (N o0 (N o567 L L) L) (N o433 L L)) (N o234 (N o367 u0 L) (N o499 L L)))) (N o1 (N o84 (N o152 (N o1 (N o547 L L) L) u0) (N o0 (N o351 (N o615 L L) L) (N o483 L L))) (N o118 (N o0 (N o317 (N o583 L L) L) u0) (N o250 (N o383 (N o647 L L) L) (N o515 L L))))) (N o0 (N o59 (u56 P) (N o1 (N o176 (N o309 (N o575 L L) L) (N o441 L L)) (N o0 (N o375 u1 L) u0))) (N o45 (N o92 (N o0 (N (o293 P) u0 L) (N o423 L L)) (N o1 (N o0 (N o623 L L) L) (N o491 L L))) u57))))))
noncomputable def t14 (P : Params) : BT := (N (boot_o_0 P) (N (boot_o_1 P) (N (o673 P) (N (boot_o_7 P) (N o0 (N o1 (u35 P) u58) (N o39 u36 u59)) (N o15 (N o31 u37 u60) (N o50 (N o85 (N o0 (N o283 (N o548 L L) L) (N o416 u0 L)) (N o1 (N o0 (N o616 L L) L) (N o484 L L))) u61))) (N o0 (N o11 (N o27 u38 u62) (N o15 (N o81 (N o0 (N o279 (N o544 L L) L) u4) (N o215 (N o346 (N o612 L L) L) u1)) u63)) (N o19 (N o35 u39 u64) (N o54 u65 u40)))) (N (boot_o_5 P) (N (boot_o_9 P) (N o9 (N o0 u41 u66) (N o41 (N o0 (N o1 (N o0 (N o542 L L) L) (N o410 (N o15 L L) L)) (N o213 (N o344 u0 L) (N o478 L L))) u67)) (N o0 (N o33 (u42 P) u68) (N o0 (N o1 (N o155 (N o285 (N o550 L L) L) (N o418 (N o684 L L) L)) (N o0 (N o354 u1 L) u0)) u69))) (N o2 (N o13 (N o0 u43 u70) (N o0 (N o83 (N o151 (N o0 (N (o546 P) L L) L) (N o414 (N o680 L L) L)) (N o217 (N o1 (N o614 L L) L) u0)) (N o1 (N o183 (N o316 (N o582 L L) L) (N o448 (N o712 L L) L)) u44))) (N o21 (N (o37 P) u45 u71) (N o56 u72 u46))))) (N (o4 P) (N (boot_o_4 P) (N (boot_o_8 P) (N o1 (N o24 (u47 P) u73) (N o40 (N o78 (N o0 (N o276 u0 L) (N o409 u0 L)) (N o1 (N o343 (N o609 L L) L) (N o477 L L))) u74)) (N (o16 P) (N o0 u48 u75) (N o51 (N o0 (N o1 (N o0 (N o549 L L) L) (N o417 u1 L)) (N o220 (N o353 u0 L) (N o485 L L))) u76))) (N o674 (N o12 (N o28 (u49 P) (u77 P)) (N (o47 P) (N o0 (N o150 (N o280 (N o545 L L) L) (N o1 (N o679 L L) L)) (N o216 u4 (N o481 L L))) (u78 P))) (N o20 (N o36 u50 u79) (N o55 u80 u51)))) (N (boot_o_6 P) (N (boot_o_10 P) (N o0 (N o26 u52 u81) (N o45 (N o1 (N o148 (N o278 (N o543 L L) L) (N o411 (N (o677 P) L L) L)) (N o0 (N o345 u1 L) u0)) u82)) (N o18 (N o34 (u53 P) u83) (N (o53 P) (N o88 (N o0 (N o286 (N o551 L L) L) u4) (N o222 (N o355 (N o619 L L) L) u1)) u54))) (N o3 (N o14 (N o1 (u55 P) u84) (N o1 (N o84 (N o152 (N o1 (N o547 L L) L) (N o0 (N o681 L L) L)) (N o0 (N o351 (N o615 L L) L) (N o483 L L))) u85)) (N o0 (N o59 (u56 P) u86) (N o45 (u87 P) u57))))))
noncomputable def t15 (P : Params) : BT := (N (boot_o_0 P) (N (boot_o_1 P) (N (o717 P) (N (boot_o_7 P) (N o0 (N o1 (N o15 (N o127 (N o259 u0 L) (N o1 (N o656 L L) L)) (N o193 u3 (N (o460 P) (N o725 L L) L))) u58) (N o39 u88 u59)) (N o15 (N o31 u89 u60) (N o50 (u90 P) u61))) (N o0 (N o11 (N o27 (N o65 (N o15 (N o0 (N o528 L L) L) (N o396 u1 L)) (N o197 (N o330 (N o596 L L) L) (N o464 (N o729 L L) L))) u62) (N o15 u91 u63)) (N o19 (N o35 u92 u64) (N o54 u65 (N o0 (N o1 (N o0 (N o588 L L) L) (N o454 (N o15 L L) L)) (N o255 (N o388 u0 L) u0)))))) (N (boot_o_5 P) (N (boot_o_9 P) (N o9 (N o0 (N o0 (N o129 (N o1 (N o526 L L) L) (N o0 (N o658 L L) L)) (N o0 (N o328 u0 L) (N o462 u0 L))) u66) (N o41 u93 u67)) (N o0 (N o33 (u94 P) u68) (N o0 u95 u69))) (N o2 (N o13 (N o0 u96 u70) (N o0 (u97 P) (N o1 (N o183 (N o316 (N o582 L L) L) (N o448 (N o719 L L) L)) u44))) (N o21 (N (o37 P) u98 u71) (N o56 u72 (N o0 (N o0 (N o324 (N o590 L L) L) u4) (N o257 (N o390 (N o654 L L) L) (N o522 L L)))))))) (N (o4 P) (N (boot_o_4 P) (N (boot_o_8 P) (N o1 (N o24 (N (o62 P) (N o128 u3 (N o393 (N o657 L L) L)) (N o194 (N o1 (N o593 L L) L) (N o0 (N o726 L L) L))) u73) (N o40 u99 u74)) (N (o16 P) (N o0 u100 u75) (N o51 u101 u76))) (N o718 (N o12 (N o28 (u102 P) (u77 P)) (N (o47 P) u103 (u78 P))) (N o20 (N o36 u104 u79) (N o55 u80 (N o1 (N o190 (N o323 (N o589 L L) L) (N o455 (N (o722 P) L L) L)) (N o0 (N o389 u1 L) (N o521 L L))))))) (N (boot_o_6 P) (N (boot_o_10 P) (N o0 (N o26 (N o1 (N o0 (N o262 u0 L) (N o395 u0 L)) (N o1 (N o0 (N o595 L L) L) (N o463 u1 L))) u81) (N o45 (u105 P) u82)) (N o18 (N o34 (u106 P) u83) (N (o53 P) u107 (N o122 (N o0 (N o321 u0 L) (N o453 (N o720 L L) L)) (N o1 (N o0 (N o651 L L) L) (N o519 L L)))))) (N o3 (N o14 (N o1 (u108 P) u84) (N o1 u109 u85)) (N o0 (N o59 (u110 P) u86) (N o45 (u87 P) (N o0 (N o192 (N o325 u0 L) (N o15 (N o724 L L) L)) (N o258 u4 (N o523 L L)))))))))
noncomputable def t16 (P : Params) : BT := (N (boot_o_0 P) (N (boot_o_1 P) (N (o753 P) (N (boot_o_7 P) (N o0 (N o1 (u111 P) (N o0 (N o1 (N o0 (N o558 L L) L) (N o424 u1 L)) (N o227 (N o360 u0 L) (N o492 (N o760 L L) L)))) (N o39 u88 (N o109 (N o0 (N o310 (N o576 L L) L) u4) (N o243 (N o376 (N o640 L L) L) (N o1 (N o776 L L) L))))) (N o15 (N o31 u89 (N o1 (N o169 (N o302 (N o568 L L) L) (N o434 (N o698 L L) L)) (N o0 (N o368 u1 L) (N o0 (N o768 L L) L)))) (N o50 (u90 P) (N o0 (N o185 (N o318 u0 L) (N o1 (N o714 L L) L)) (N o251 u4 (N o516 (N o784 L L) L)))))) (N o0 (N o11 (N o27 u112 (N o97 (N o165 (N o0 (N o15 L L) L) (N o430 (N o694 L L) L)) (N o231 (N o1 (N o628 L L) L) u4))) (N o15 u91 (N o113 (N o0 (N o314 u0 L) (N o446 (N o710 L L) L)) (N o1 (N o0 (N o644 L L) L) (N o0 (N o780 L L) L))))) (N o19 (N o35 u92 (N o105 (N o173 (N o1 (N o572 L L) L) (N o0 (N o702 L L) L)) (N o0 (N o372 (N o636 L L) L) (N o504 u1 L)))) (N o54 (N o0 (N o157 (N o287 u0 L) (N o1 (N o686 L L) L)) (N o223 u4 (N o488 (N o720 L L) L))) u113)))) (N (boot_o_5 P) (N (boot_o_9 P) (N o9 (N o0 u114 (N o95 (N o0 (N o296 (N o560 L L) L) u4) (N o229 (N o362 (N o626 L L) L) (N o1 (N o762 L L) L)))) (N o41 u93 (N o111 (N o179 u3 (N o444 (N o708 L L) L)) (N o245 (N o1 (N o642 L L) L) (N o510 u0 L))))) (N o0 (N o33 (u94 P) (N o0 (N o171 (N o304 u0 L) (N o1 (N o700 L L) L)) (N o237 u4 (N o502 (N o770 L L) L)))) (N o0 u95 u115))) (N o2 (N o13 (N o0 u96 (N o99 (N o0 (N o300 u0 L) (N o432 u0 L)) (N o1 (N o0 (N o630 L L) L) (N o498 (N o766 L L) L)))) (N o0 (u97 P) (N o1 (N o183 (N o316 (N o582 L L) L) (N o448 (N o755 L L) L)) (N o0 (N o382 u1 L) (N o514 (N o782 L L) L))))) (N o21 (N (o37 P) u98 (N o0 (N o1 (N o0 (N o574 L L) L) (N o440 u1 L)) (N o241 (N o374 u0 L) (N o506 u0 L)))) (N o56 (N o91 (N o159 (N o15 (N o556 L L) L) (N o0 (N o688 L L) L)) (N o0 (N o358 (N o622 L L) L) (N o490 (N (o758 P) L L) L))) u116))))) (N (o4 P) (N (boot_o_4 P) (N (boot_o_8 P) (N o1 (N o24 (u117 P) (N o1 (N o162 (N o295 (N o559 L L) L) (N o425 (N o691 L L) L)) (N o0 (N o361 u1 L) (N o0 (N o761 L L) L)))) (N o40 u99 (N o0 (N o178 (N o311 u0 L) (N o1 (N o707 L L) L)) (N o244 u4 (N o509 (N o777 L L) L))))) (N (o16 P) (N o0 u100 (N o102 (N o0 (N o303 (N o569 L L) L) u4) (N o236 (N o369 (N o633 L L) L) (N o1 (N o769 L L) L)))) (N o51 u101 (N o120 (N o186 u3 (N o451 (N o715 L L) L)) (N o252 (N o1 (N o649 L L) L) u4))))) (N o754 (N o12 (N o28 (u102 P) (N o98 (N o166 (N o1 (N (o565 P) L L) L) (N o0 (N o695 L L) L)) (N o0 (N o365 (N o629 L L) L) (N o497 u1 L)))) (N (o47 P) u103 (N o0 (N o1 (N o0 (N o581 L L) L) (N o447 (N (o711 P) L L) L)) (N o248 (N o381 u0 L) u7)))) (N o20 (N o36 u104 (N o106 (N o0 (N o307 u0 L) (N o439 u0 L)) (N o1 (N o0 (N o637 L L) L) (N o505 (N o773 L L) L)))) (N o55 (N o90 (N o158 u3 (N o421 (N o687 L L) L)) (N o224 (N o1 (N o621 L L) L) (N o0 (N o15 L L) L))) (u118 P))))) (N (boot_o_6 P) (N (boot_o_10 P) (N o0 (N o26 u119 (N o0 (N o164 (N o297 u0 L) (N o1 (N o693 L L) L)) (N o230 u4 (N o495 (N o763 L L) L)))) (N o45 (u105 P) (N o112 (N o180 (N o1 (N o579 L L) L) (N o0 (N o709 L L) L)) (N o0 (N o379 (N o643 L L) L) (N o511 u1 L))))) (N o18 (N o34 (u106 P) (N o104 (N o172 u3 (N o437 (N o701 L L) L)) (N o238 (N o1 (N o635 L L) L) u4))) (N (o53 P) u107 u120))) (N o3 (N o14 (N o1 (u108 P) (N o0 (N o1 (N o0 (N o567 L L) L) (N o433 u1 L)) (N o234 (N o367 u0 L) (N o499 u0 L)))) (N o1 u109 (N o118 (N o0 (N o317 (N o583 L L) L) (N o0 (N o713 L L) L)) (N o250 (N o383 (N o647 L L) L) (N o515 (N o783 L L) L))))) (N o0 (N o59 (u110 P) (N o1 (N o176 (N o309 (N o575 L L) L) (N o441 (N o705 L L) L)) (N o0 (N o375 u1 L) (N o0 (N o775 L L) L)))) (N o45 (N o92 (N o0 (N (o293 P) u0 L) (N o423 u0 L)) (N o1 (N o0 (N o623 L L) L) (N o491 u0 L))) u121))))))
noncomputable def t17 (P : Params) : BT := (N (boot_o_0 P) (N (boot_o_1 P) (N (o797 P) (N (boot_o_7 P) (N o0 (N o1 (u111 P) (N o0 (N o1 (N o0 (N o558 L L) (N o827 L L)) (N o424 u1 L)) (N o227 (N o360 u0 L) (N o492 (N o760 L L) L)))) (N o39 (N o77 (N o145 (N o1 (N o540 L L) u0) (N o0 (N o672 L L) L)) (N o0 (N o342 (N o608 L L) L) (N o476 u0 L))) (N o109 (N o0 (N o310 (N o576 L L) (N o843 L L)) u4) (N o243 (N o376 (N o640 L L) L) (N o1 (N o776 L L) L))))) (N o15 (N o31 (N o69 (N o137 (N o0 u1 u0) (N o400 (N o664 L L) L)) (N o201 (N o1 (N o600 L L) L) (N o0 (N o733 L L) L))) (N o1 (N o169 (N o302 (N o568 L L) u1) (N o434 (N o698 L L) L)) (N o0 (N o368 u1 L) (N o0 (N o768 L L) L)))) (N o50 (N o85 (N o0 (N o283 (N o548 L L) (N o819 L L)) (N o416 u0 L)) (N o1 (N o0 (N o616 L L) L) (N o484 (N (o749 P) L L) L))) u122))) (N o0 (N o11 (N o27 u112 (N o97 (N o165 (N o0 (N o15 L L) (N o831 L L)) (N o430 (N o694 L L) L)) (N o231 (N o1 (N o628 L L) L) u4))) (N o15 (N o81 (N o0 (N o279 (N o544 L L) u0) u4) (N o215 (N o346 (N o612 L L) L) (N o1 (N o745 L L) L))) u123)) (N o19 (N o35 (N o1 (N o141 (N o271 (N o536 L L) (N o807 L L)) (N o404 (N o668 L L) L)) (N o205 (N o338 u1 L) u4)) (N o105 (N o173 (N o1 (N o572 L L) (N o839 L L)) (N o0 (N o702 L L) L)) (N o0 (N o372 (N o636 L L) L) (N o504 u1 L)))) (N o54 (N o0 (N o157 (N o287 u0 u1) (N o1 (N o686 L L) L)) (N o223 u4 (N o488 (N o720 L L) L))) u113)))) (N (boot_o_5 P) (N (boot_o_9 P) (N o9 (N o0 u114 (N o95 (N o0 (N o296 (N o560 L L) u0) u4) (N o229 (N o362 (N o626 L L) L) (N o1 (N o762 L L) L)))) (N o41 (N o0 (N o1 (N o0 (N o542 L L) (N o813 L L)) (N o410 (N o15 L L) L)) (N o213 (N o344 u0 L) (N o478 (N o743 L L) L))) u124)) (N o0 (N o33 (N o71 (N o0 (N o269 u0 (N o805 L L)) (N o402 (N o666 L L) L)) (N (o203 P) (N o0 (N o602 L L) L) (N o470 u1 L))) (N o0 (N o171 (N o304 u0 u0) (N o1 (N o700 L L) L)) (N o237 u4 (N o502 (N o770 L L) L)))) (N o0 (N o1 (N o155 (N o285 (N o550 L L) (N o821 L L)) (N o418 (N o684 L L) L)) (N o0 (N o354 u1 L) (N o0 (N o751 L L) L))) u115))) (N o2 (N o13 (N o0 (N o0 (N o0 (N o265 (N o530 L L) (N o15 L L)) u4) (N o199 (N o332 u0 L) (N o1 (N o731 L L) L))) (N o99 (N o0 (N o300 u0 (N o833 L L)) (N o432 u0 L)) (N o1 (N o0 (N o630 L L) L) (N o498 (N o766 L L) L)))) (N o0 (N o83 (N o151 (N o0 (N (o546 P) L L) (N o817 L L)) (N o414 (N o680 L L) L)) (N o217 (N o1 (N o614 L L) L) (N o0 (N o747 L L) L))) (u125 P))) (N o21 (N (o37 P) (N o0 (N o143 (N o273 u0 u1) (N o1 (N o670 L L) L)) (N o207 (N o340 u0 L) (N o474 (N o739 L L) L))) (N o0 (N o1 (N o0 (N o574 L L) u0) (N o440 u1 L)) (N o241 (N o374 u0 L) (N o506 u0 L)))) (N o56 (N o91 (N o159 (N o15 (N o556 L L) u0) (N o0 (N o688 L L) L)) (N o0 (N o358 (N o622 L L) L) (N o490 (N (o758 P) L L) L))) u116))))) (N (o4 P) (N (boot_o_4 P) (N (boot_o_8 P) (N o1 (N o24 (u117 P) (N o1 (N o162 (N o295 (N o559 L L) (N o828 L L)) (N o425 (N o691 L L) L)) (N o0 (N o361 u1 L) (N o0 (N o761 L L) L)))) (N o40 (N o78 (N o0 (N o276 u0 (N o812 L L)) (N o409 u0 L)) (N o1 (N o343 (N o609 L L) L) (N o477 u1 L))) u126)) (N (o16 P) (N o0 (N o70 (N o138 (N o1 (N o533 L L) (N o804 L L)) (N o0 (N o665 L L) L)) (N o202 (N o335 (N o601 L L) L) (N o469 u0 L))) (N o102 (N o0 (N o303 (N o569 L L) (N o836 L L)) u4) (N o236 (N o369 (N o633 L L) L) (N o1 (N o769 L L) L)))) (N o51 (N o0 (N o1 (N o0 (N o549 L L) (N o820 L L)) (N o417 u1 L)) (N o220 (N o353 u0 L) (N o485 (N o750 L L) L))) u127))) (N o798 (N o12 (N o28 (N o66 (u128 P) (N o0 (N o331 (N o597 L L) L) u4)) (N o98 (N o166 (N o1 (N (o565 P) L L) (N o832 L L)) (N o0 (N o695 L L) L)) (N o0 (N o365 (N o629 L L) L) (N o497 u1 L)))) (N (o47 P) (N o0 (N o150 (N o280 (N o545 L L) u1) (N o1 (N o679 L L) L)) (N o216 u4 (N o481 (N o746 L L) L))) (u129 P))) (N o20 (N o36 (N o74 (N o0 (N o272 (N o537 L L) u0) (N o0 (N o669 L L) L)) (N o206 (N o339 (N o605 L L) L) (N o1 (N o738 L L) L))) (N o106 (N o0 (N o307 u0 (N o840 L L)) (N o439 u0 L)) (N o1 (N o0 (N o637 L L) L) (N o505 (N o773 L L) L)))) (N o55 (N o90 (N o158 (N o0 u1 (N o824 L L)) (N o421 (N o687 L L) L)) (N o224 (N o1 (N o621 L L) L) (N o0 (N o15 L L) L))) (u118 P))))) (N (boot_o_6 P) (N (boot_o_10 P) (N o0 (N o26 u119 (N o0 (N o164 (N o297 u0 u1) (N o1 (N o693 L L) L)) (N o230 u4 (N o495 (N o763 L L) L)))) (N o45 (N o1 (u130 P) (N o0 (N o345 u1 L) u4)) u131)) (N o18 (N o34 (N o0 (N o1 (N o0 (N o535 L L) (N o806 L L)) (N o403 (N (o667 P) L L) L)) (N o204 (N o337 u0 L) (N o471 (N o736 L L) L))) (N o104 (N o172 (N o0 u1 (N o838 L L)) (N o437 (N o701 L L) L)) (N o238 (N o1 (N o635 L L) L) u4))) (N (o53 P) (N o88 (N o0 (N o286 (N o551 L L) u0) u4) (N o222 (N o355 (N o619 L L) L) (N o1 (N o752 L L) L))) u120))) (N o3 (N o14 (N o1 (N (o68 P) (N o136 (N o266 u0 (N (o802 P) L L)) (N o1 (N o663 L L) L)) (N o200 u3 (N o467 (N o732 L L) L))) (N o0 (N o1 (N o0 (N o567 L L) u0) (N o433 u1 L)) (N o234 (N o367 u0 L) (N o499 u0 L)))) (N o1 (N o84 (N o152 (N o1 (N o547 L L) u0) (N o0 (N o681 L L) L)) (N o0 (N o351 (N o615 L L) L) (N o483 (N o748 L L) L))) u132)) (N o0 (N o59 (N o76 (N o144 (N o0 u1 (N o810 L L)) (N o407 (N o671 L L) L)) (N o208 (N (o341 P) (N o607 L L) L) (N o0 (N o740 L L) L))) (N o1 (N o176 (N o309 (N o575 L L) u1) (N o441 (N o705 L L) L)) (N o0 (N o375 u1 L) (N o0 (N o775 L L) L)))) (N o45 (N o92 (N o0 (N (o293 P) u0 (N o826 L L)) (N o423 u0 L)) (N o1 (N o0 (N o623 L L) L) (N o491 u0 L))) u121))))))
noncomputable def t18 (P : Params) : BT := (N (boot_o_0 P) (N (boot_o_1 P) (N (o853 P) (N (boot_o_7 P) (N o0 (N o1 (N o15 (N o127 (N o259 u0 (N o792 L L)) (N o1 (N o656 L L) L)) (N o193 (N o0 u1 (N o861 L L)) (N (o460 P) (N o725 L L) L))) (N o0 (N o1 (N o0 (N o558 L L) (N o827 L L)) (N o424 u1 L)) (N o227 (N o360 u0 (N o893 L L)) (N o492 (N o760 L L) L)))) (N o39 (N o77 (N o145 (N o1 (N o540 L L) u0) (N o0 (N o672 L L) L)) (N o0 (N o342 (N o608 L L) (N o877 L L)) (N o476 u0 L))) (N o109 (N o0 (N o310 (N o576 L L) (N o843 L L)) u4) (N o243 (N o376 (N o640 L L) (N o909 L L)) (N o1 (N o776 L L) L))))) (N o15 (N o31 (N o69 (N o137 (N o0 u1 u0) (N o400 (N o664 L L) L)) (N o201 (N o1 (N o600 L L) (N o869 L L)) (N o0 (N o733 L L) L))) (N o1 (N o169 (N o302 (N o568 L L) u1) (N o434 (N o698 L L) L)) (N o0 (N o368 u1 (N o901 L L)) (N o0 (N o768 L L) L)))) (N o50 (N o85 (N o0 (N o283 (N o548 L L) (N o819 L L)) (N o416 u0 L)) (N o1 (N o0 (N o616 L L) u0) (N o484 (N (o749 P) L L) L))) u122))) (N o0 (N o11 (N o27 (N o65 (N o15 (N o0 (N o528 L L) (N o796 L L)) (N o396 u1 L)) (N o197 (N o330 (N o596 L L) (N o865 L L)) (N o464 (N o729 L L) L))) (N o97 (N o165 (N o0 (N o15 L L) (N o831 L L)) (N o430 (N o694 L L) L)) (N o231 (N o1 (N o628 L L) u1) u4))) (N o15 (N o81 (N o0 (N o279 (N o544 L L) u0) u4) (N o215 (N o346 (N o612 L L) (N o881 L L)) (N o1 (N o745 L L) L))) u123)) (N o19 (N o35 (N o1 (N o141 (N o271 (N o536 L L) (N o807 L L)) (N o404 (N o668 L L) L)) (N o205 (N o338 u1 (N o873 L L)) u4)) (N o105 (N o173 (N o1 (N o572 L L) (N o839 L L)) (N o0 (N o702 L L) L)) (N o0 (N o372 (N o636 L L) (N o905 L L)) (N o504 u1 L)))) (N o54 (N o0 (N o157 (N o287 u0 u1) (N o1 (N o686 L L) L)) (N o223 u133 (N o488 (N o720 L L) L))) (N o0 (N o1 (N o0 (N o588 L L) (N (o857 P) L L)) (N o454 (N o15 L L) L)) (N o255 (N o388 u0 L) u4)))))) (N (boot_o_5 P) (N (boot_o_9 P) (N o9 (N o0 (N o0 (N o129 (N o1 (N o526 L L) (N o794 L L)) (N o0 (N o658 L L) L)) (N o0 (N o328 u0 u0) (N o462 u0 L))) (N o95 (N o0 (N o296 (N o560 L L) u0) u4) (N o229 (N o362 (N o626 L L) (N o895 L L)) (N o1 (N o762 L L) L)))) (N o41 (N o0 (N o1 (N o0 (N o542 L L) (N o813 L L)) (N o410 (N o15 L L) L)) (N o213 (N o344 u0 (N o879 L L)) (N o478 (N o743 L L) L))) u124)) (N o0 (N o33 (N o71 (N o0 (N o269 u0 (N o805 L L)) (N o402 (N o666 L L) L)) (N (o203 P) (N o0 (N o602 L L) u1) (N o470 u1 L))) (N o0 (N o171 (N o304 u0 u0) (N o1 (N o700 L L) L)) (N o237 (N o0 u0 (N o903 L L)) (N o502 (N o770 L L) L)))) (N o0 (N o1 (N o155 (N o285 (N o550 L L) (N o821 L L)) (N o418 (N o684 L L) L)) (N o0 (N o354 u1 (N o887 L L)) (N o0 (N o751 L L) L))) (N o121 (N o187 (N o1 (N o586 L L) u0) (N o0 (N o716 L L) L)) (N o0 (N o386 (N o650 L L) L) (N o1 u1 L)))))) (N o2 (N o13 (N o0 (N o0 (N o0 (N o265 (N o530 L L) (N o15 L L)) u4) (N o199 (N o332 u0 (N o867 L L)) (N o1 (N o731 L L) L))) (N o99 (N o0 (N o300 u0 (N o833 L L)) (N o432 u0 L)) (N o1 (N o0 (N o630 L L) u0) (N o498 (N o766 L L) L)))) (N o0 (N o83 (N o151 (N o0 (N (o546 P) L L) (N o817 L L)) (N o414 (N o680 L L) L)) (N o217 (N o1 (N o614 L L) u1) (N o0 (N o747 L L) L))) (u125 P))) (N o21 (N (o37 P) (N o0 (N o143 (N o273 u0 u1) (N o1 (N o670 L L) L)) (N o207 (N o340 u0 u0) (N o474 (N o739 L L) L))) (N o0 (N o1 (N o0 (N o574 L L) u0) (N o440 u1 L)) (N o241 (N o374 u0 (N o907 L L)) (N o506 u0 L)))) (N o56 (N o91 (N o159 (N o15 (N o556 L L) u0) (N o0 (N o688 L L) L)) (N o0 (N o358 (N o622 L L) (N o891 L L)) (N o490 (N (o758 P) L L) L))) (N o0 (N o0 (N o324 (N o590 L L) (N o859 L L)) u4) (N o257 (N o390 (N o654 L L) L) (N o522 (N o790 L L) L)))))))) (N (o4 P) (N (boot_o_4 P) (N (boot_o_8 P) (N o1 (N o24 (N (o62 P) (N o128 (N o0 u1 (N (o793 P) L L)) (N o393 (N o657 L L) L)) (N o194 (N o1 (N o593 L L) (N o862 L L)) (N o0 (N o726 L L) L))) (N o1 (N o162 (N o295 (N o559 L L) (N o828 L L)) (N o425 (N o691 L L) L)) (N o0 (N o361 u1 (N o894 L L)) (N o0 (N o761 L L) L)))) (N o40 (N o78 (N o0 (N o276 u0 (N o812 L L)) (N o409 u0 L)) (N o1 (N o343 (N o609 L L) u0) (N o477 u1 L))) u126)) (N (o16 P) (N o0 (N o70 (N o138 (N o1 (N o533 L L) (N o804 L L)) (N o0 (N o665 L L) L)) (N o202 (N o335 (N o601 L L) u0) (N o469 u0 L))) (N o102 (N o0 (N o303 (N o569 L L) (N o836 L L)) u4) (N o236 (N o369 (N o633 L L) (N o902 L L)) (N o1 (N o769 L L) L)))) (N o51 (N o0 (N o1 (N o0 (N o549 L L) (N o820 L L)) (N o417 u1 L)) (N o220 (N o353 u0 (N o886 L L)) (N o485 (N o750 L L) L))) u127))) (N o854 (N o12 (N o28 (N o66 (u128 P) (N o0 (N o331 (N o597 L L) u0) u4)) (N o98 (N o166 (N o1 (N (o565 P) L L) (N o832 L L)) (N o0 (N o695 L L) L)) (N o0 (N o365 (N o629 L L) (N o898 L L)) (N o497 u1 L)))) (N (o47 P) (N o0 (N o150 (N o280 (N o545 L L) u1) (N o1 (N o679 L L) L)) (N o216 u133 (N o481 (N o746 L L) L))) (u129 P))) (N o20 (N o36 (N o74 (N o0 (N o272 (N o537 L L) u0) (N o0 (N o669 L L) L)) (N o206 (N o339 (N o605 L L) (N o874 L L)) (N o1 (N o738 L L) L))) (N o106 (N o0 (N o307 u0 (N o840 L L)) (N o439 u0 L)) (N o1 (N o0 (N o637 L L) (N o906 L L)) (N o505 (N o773 L L) L)))) (N o55 (N o90 (N o158 (N o0 u1 (N o824 L L)) (N o421 (N o687 L L) L)) (N o224 (N o1 (N o621 L L) u1) (N o0 (N o15 L L) L))) (N o1 (N o190 (N o323 (N o589 L L) u0) (N o455 (N (o722 P) L L) L)) (N o0 (N o389 u1 L) (N o521 (N o789 L L) L))))))) (N (boot_o_6 P) (N (boot_o_10 P) (N o0 (N o26 (N o1 (N o0 (N o262 u0 (N o795 L L)) (N o395 u0 L)) (N o1 (N o0 (N o595 L L) u1) (N o463 u1 L))) (N o0 (N o164 (N o297 u0 u1) (N o1 (N o693 L L) L)) (N o230 u133 (N o495 (N o763 L L) L)))) (N o45 (N o1 (u130 P) (N o0 (N o345 u1 (N o880 L L)) u4)) u131)) (N o18 (N o34 (N o0 (N o1 (N o0 (N o535 L L) (N o806 L L)) (N o403 (N (o667 P) L L) L)) (N o204 (N o337 u0 (N o872 L L)) (N o471 (N o736 L L) L))) (N o104 (N o172 (N o0 u1 (N o838 L L)) (N o437 (N o701 L L) L)) (N o238 (N o1 (N o635 L L) (N (o904 P) L L)) u4))) (N (o53 P) (N o88 (N o0 (N o286 (N o551 L L) u0) u4) (N o222 (N o355 (N o619 L L) (N o888 L L)) (N o1 (N o752 L L) L))) (N o122 (N o0 (N o321 u0 (N o15 L L)) (N o453 (N o720 L L) L)) (N o1 (N o0 (N o651 L L) L) (N o519 (N o787 L L) L)))))) (N o3 (N o14 (N o1 (N (o68 P) (N o136 (N o266 u0 (N (o802 P) L L)) (N o1 (N o663 L L) L)) (N o200 (N o0 u1 (N o868 L L)) (N o467 (N o732 L L) L))) (N o0 (N o1 (N o0 (N o567 L L) u0) (N o433 u1 L)) (N o234 (N o367 u0 (N o900 L L)) (N o499 u0 L)))) (N o1 (N o84 (N o152 (N o1 (N o547 L L) u0) (N o0 (N o681 L L) L)) (N o0 (N o351 (N o615 L L) (N o884 L L)) (N o483 (N o748 L L) L))) u132)) (N o0 (N o59 (N o76 (N o144 (N o0 u1 (N o810 L L)) (N o407 (N o671 L L) L)) (N o208 (N (o341 P) (N o607 L L) u1) (N o0 (N o740 L L) L))) (N o1 (N o176 (N o309 (N o575 L L) u1) (N o441 (N o705 L L) L)) (N o0 (N o375 u1 (N o908 L L)) (N o0 (N o775 L L) L)))) (N o45 (N o92 (N o0 (N (o293 P) u0 (N o826 L L)) (N o423 u0 L)) (N o1 (N o0 (N o623 L L) u0) (N o491 u0 L))) (N o0 (N o192 (N o325 u0 (N o860 L L)) (N o15 (N o724 L L) L)) (N o258 u4 (N o523 (N o791 L L) L)))))))))
noncomputable def t19 (P : Params) : BT := (N (boot_o_0 P) (N (boot_o_1 P) (N (o910 P) (N (boot_o_7 P) (N o0 (N o1 (N o15 u134 (N o193 (N o0 u1 (N o861 L L)) (N (o460 P) (N o725 L L) L))) u135) u136) (N o15 (N o31 (N o69 u137 (N o201 (N o1 (N o600 L L) (N o869 L L)) (N o0 (N o733 L L) L))) u138) (N o50 (u139 P) (N o0 (N o185 (N o318 u0 (N o851 L L)) (N o1 (N o714 L L) L)) (N o251 u133 (N o516 (N o784 L L) L)))))) (N o0 (N o11 (N o27 (N o65 u140 (N o197 (N o330 (N o596 L L) (N o865 L L)) (N o464 (N o729 L L) L))) u141) u142) (N o19 u143 (N o54 u144 (N o0 (N o1 (N o0 (N o588 L L) (N (o857 P) L L)) (N o454 (N o15 L L) L)) (N o255 (N o388 u0 (N o923 L L)) u4)))))) (N (boot_o_5 P) (N (boot_o_9 P) (N o9 (N o0 (N o0 u145 (N o0 (N o328 u0 u0) (N o462 u0 L))) u146) u147) (N o0 (u148 P) (N o0 u149 (N o121 (N o187 (N o1 (N o586 L L) u0) (N o0 (N o716 L L) L)) (N o0 (N o386 (N o650 L L) (N o921 L L)) (N o1 u1 L)))))) (N o2 (N o13 (N o0 (N o0 (N o0 (N o265 (N o530 L L) (N o15 L L)) u133) (N o199 (N o332 u0 (N o867 L L)) (N o1 (N o731 L L) L))) u150) (u151 P)) (N o21 (u152 P) (N o56 (u153 P) (N o0 (N o0 (N o324 (N o590 L L) (N o859 L L)) u4) (N o257 (N o390 (N o654 L L) (N o925 L L)) (N o522 (N o790 L L) L)))))))) (N (o4 P) (N (boot_o_4 P) (N (boot_o_8 P) (N o1 (N o24 (N (o62 P) (u154 P) (N o194 (N o1 (N o593 L L) (N o862 L L)) (N o0 (N o726 L L) L))) u155) u156) (N (o16 P) (N o0 (N o70 u157 (N o202 (N o335 (N o601 L L) u0) (N o469 u0 L))) u158) (N o51 u159 (N o120 (N o186 (N o0 u1 (N o852 L L)) (N o451 (N o715 L L) L)) (N o252 (N o1 (N o649 L L) u1) u4))))) (N o911 (N o12 (N o28 (N o66 (u160 P) (N o0 (N o331 (N o597 L L) u0) u4)) (u161 P)) (u162 P)) (N o20 u163 (N o55 u164 (N o1 (N o190 (N o323 (N o589 L L) u0) (N o455 (N (o722 P) L L) L)) (N o0 (N o389 u1 (N o924 L L)) (N o521 (N o789 L L) L))))))) (N (boot_o_6 P) (N (boot_o_10 P) (N o0 (N o26 (N o1 u165 (N o1 (N o0 (N o595 L L) u1) (N o463 u1 L))) u166) (u167 P)) (N o18 (u168 P) (N (o53 P) u169 (N o122 (N o0 (N o321 u0 (N o15 L L)) (N o453 (N o720 L L) L)) (N o1 (N o0 (N o651 L L) u0) (N o519 (N o787 L L) L)))))) (N o3 (N o14 (N o1 (N (o68 P) (u170 P) (N o200 (N o0 u1 (N o868 L L)) (N o467 (N o732 L L) L))) u171) (N o1 u172 (N o118 (N o0 (N o317 (N o583 L L) (N o850 L L)) (N o0 (N o713 L L) L)) (N o250 (N o383 (N o647 L L) (N o918 L L)) (N o515 (N o783 L L) L))))) (N o0 (u173 P) (N o45 (u174 P) (N o0 (N o192 (N o325 u0 (N o860 L L)) (N o15 (N o724 L L) L)) (N o258 u133 (N o523 (N o791 L L) L)))))))))
noncomputable def t20 (P : Params) : BT := (N (boot_o_0 P) (N (boot_o_1 P) (N (o982 P) (N (boot_o_7 P) (N o0 (N o1 (N o15 u134 (N o193 (N o0 u1 (N o861 L L)) (N (o460 P) (N o725 L L) (N o993 L L)))) u135) u136) (N o15 (N o31 (N o69 u137 (N o201 (N o1 (N o600 L L) (N o869 L L)) (N o0 (N o733 L L) (N o1001 L L)))) u138) (N o50 (u139 P) (N o0 (N o185 (N o318 u0 (N o851 L L)) (N o1 (N o714 L L) u1)) (N o251 u133 (N o516 (N o784 L L) L)))))) (N o0 (N o11 (N o27 (N o65 u140 (N o197 (N o330 (N o596 L L) (N o865 L L)) (N o464 (N o729 L L) (N o997 L L)))) u141) u142) (N o19 u143 (N o54 u144 (N o0 (N o1 (N o0 (N o588 L L) (N (o857 P) L L)) (N o454 (N o15 L L) (N o989 L L))) (N o255 (N o388 u0 (N o923 L L)) u4)))))) (N (boot_o_5 P) (N (boot_o_9 P) (N o9 (N o0 (N o0 u145 (N o0 (N o328 u0 u0) (N o462 u0 (N o995 L L)))) u146) u147) (N o0 (u148 P) (N o0 u149 (N o121 (N o187 (N o1 (N o586 L L) u0) (N o0 (N o716 L L) u0)) (N o0 (N o386 (N o650 L L) (N o921 L L)) (N o1 u1 L)))))) (N o2 (N o13 (N o0 (N o0 (N o0 (N o265 (N o530 L L) (N o15 L L)) u133) (N o199 (N o332 u0 (N o867 L L)) (N o1 (N o731 L L) u1))) u150) (u151 P)) (N o21 (u152 P) (N o56 (u153 P) (N o0 (N o0 (N o324 (N o590 L L) (N o859 L L)) u133) (N o257 (N o390 (N o654 L L) (N o925 L L)) (N o522 (N o790 L L) L)))))))) (N (o4 P) (N (boot_o_4 P) (N (boot_o_8 P) (N o1 (N o24 (N (o62 P) (u154 P) (N o194 (N o1 (N o593 L L) (N o862 L L)) (N o0 (N o726 L L) u0))) u155) u156) (N (o16 P) (N o0 (N o70 u157 (N o202 (N o335 (N o601 L L) u0) (N o469 u0 (N o1002 L L)))) u158) (N o51 u159 (N o120 (N o186 (N o0 u1 (N o852 L L)) (N o451 (N o715 L L) (N o986 L L))) (N o252 (N o1 (N o649 L L) u1) u4))))) (N o983 (N o12 (N o28 (N o66 (u160 P) (N o0 (N o331 (N o597 L L) u0) u133)) (u161 P)) (u162 P)) (N o20 u163 (N o55 u164 (N o1 (N o190 (N o323 (N o589 L L) u0) (N o455 (N (o722 P) L L) (N o990 L L))) (N o0 (N o389 u1 (N o924 L L)) (N o521 (N o789 L L) L))))))) (N (boot_o_6 P) (N (boot_o_10 P) (N o0 (N o26 (N o1 u165 (N o1 (N o0 (N o595 L L) u1) (N o463 u1 (N o996 L L)))) u166) (u167 P)) (N o18 (u168 P) (N (o53 P) u169 (N o122 (N o0 (N o321 u0 (N o15 L L)) (N o453 (N o720 L L) (N o988 L L))) (N o1 (N o0 (N o651 L L) u0) (N o519 (N o787 L L) L)))))) (N o3 (N o14 (N o1 (N (o68 P) (u170 P) (N o200 (N o0 u1 (N o868 L L)) (N o467 (N o732 L L) (N o1000 L L)))) u171) (N o1 u172 (N o118 (N o0 (N o317 (N o583 L L) (N o850 L L)) (N o0 (N o713 L L) u0)) (N o250 (N o383 (N o647 L L) (N o918 L L)) (N o515 (N o783 L L) L))))) (N o0 (u173 P) (N o45 (u174 P) (N o0 (N o192 (N o325 u0 (N o860 L L)) (N o15 (N o724 L L) u1)) (N o258 u133 (N o523 (N o791 L L) L)))))))))
noncomputable def hF (P : Params) : Heap := ⟨#[boot_o_0 P, boot_o_1 P, o4 P, o982 P, boot_o_4 P, boot_o_5 P, boot_o_6 P, boot_o_7 P, boot_o_8 P, boot_o_9 P, boot_o_10 P, o0, o983, o2, o3, o0, o1, o9, o0, o11, o12, o13, o14, o15, o16 P, o0, o18, o19, o20, o21, o0, o1, o24, o0, o26, o27, o28, o0, o1, o31, o0, o33, o34, o35, o36, o37 P, o59, o39, o40, o41, o45, o15, o47 P, o0, o1, o50, o51, o0, o53 P, o54, o55, o56, o45, o15, o62 P, o0, o1, o65, o66, o0, o68 P, o69, o70, o71, o0, o1, o74, o0, o76, o77, o78, o0, o1, o81, o0, o83, o84, o85, o0, o1, o88, o0, o90, o91, o92, o0, o1, o95, o0, o97, o98, o99, o0, o1, o102, o0, o104, o105, o106, o0, o1, o109, o0, o111, o112, o113, o0, o1, o118, o0, o120, o121, o122, o0, o1, o0, o0, o127, o128, o129, o0, o15, o134 P, o0, o136, o137, o138, o0, o1, o141, o0, o143, o144, o145, o0, o1, o148, o0, o150, o151, o152, o0, o1, o155, o0, o157, o158, o159, o0, o1, o162, o0, o164, o165, o166, o0, o1, o169, o0, o171, o172, o173, o0, o1, o176, o0, o178, o179, o180, o0, o1, o183, o0, o185, o186, o187, o0, o1, o190, o0, o192, o193, o194, o0, o1, o197, o0, o199, o200, o201, o202, o203 P, o204, o205, o206, o207, o208, o0, o1, o213, o0, o215, o216, o217, o0, o1, o220, o0, o222, o223, o224, o0, o1, o227, o0, o229, o230, o231, o0, o1, o234, o0, o236, o237, o238, o0, o1, o241, o0, o243, o244, o245, o0, o1, o248, o0, o250, o251, o252, o0, o1, o255, o0, o257, o258, o259, o0, o1, o262, o0, o264, o265, o266, o0, o1, o269, o0, o271, o272, o273, o0, o1, o276, o0, o278, o279, o280, o0, o1, o283, o0, o285, o286, o287, o0, o15, o293 P, o0, o295, o296, o297, o0, o1, o300, o0, o302, o303, o304, o0, o1, o307, o0, o309, o310, o311, o0, o1, o314, o0, o316, o317, o318, o0, o1, o321, o0, o323, o324, o325, o0, o1, o328, o0, o330, o331, o332, o0, o1, o335, o0, o337, o338, o339, o340, o341 P, o342, o343, o344, o345, o346, o0, o1, o351, o0, o353, o354, o355, o0, o1, o358, o0, o360, o361, o362, o0, o1, o365, o0, o367, o368, o369, o0, o1, o372, o0, o374, o375, o376, o0, o1, o379, o0, o381, o382, o383, o0, o1, o386, o0, o388, o389, o390, o0, o1, o393, o0, o395, o396, o397, o0, o1, o400, o0, o402, o403, o404, o0, o1, o407, o0, o409, o410, o411, o0, o1, o414, o0, o416, o417, o418, o0, o1, o421, o0, o423, o424, o425, o0, o1, o430, o0, o432, o433, o434, o0, o1, o437, o0, o439, o440, o441, o0, o1, o444, o0, o446, o447, o448, o0, o1, o451, o0, o453, o454, o455, o0, o15, o460 P, o0, o462, o463, o464, o0, o1, o467, o0, o469, o470, o471, o0, o1, o474, o0, o476, o477, o478, o0, o1, o481, o0, o483, o484, o485, o0, o1, o488, o0, o490, o491, o492, o0, o1, o495, o0, o497, o498, o499, o0, o1, o502, o0, o504, o505, o506, o0, o1, o509, o510, o511, o0, o1, o514, o515, o516, o0, o1, o519, o0, o521, o522, o523, o0, o1, o526, o0, o528, o529, o530, o0, o1, o533, o0, o535, o536, o537, o0, o1, o540, o0, o542, o543, o544, o545, o546 P, o547, o548, o549, o550, o551, o0, o1, o556, o0, o558, o559, o560, o0, o15, o565 P, o0, o567, o568, o569, o0, o1, o572, o0, o574, o575, o576, o0, o1, o579, o0, o581, o582, o583, o0, o1, o586, o0, o588, o589, o590, o0, o1, o593, o0, o595, o596, o597, o0, o1, o600, o601, o602, o0, o1, o605, o0, o607, o608, o609, o0, o1, o612, o0, o614, o615, o616, o0, o1, o619, o0, o621, o622, o623, o0, o1, o626, o0, o628, o629, o630, o0, o1, o633, o0, o635, o636, o637, o0, o1, o640, o0, o642, o643, o644, o0, o1, o647, o0, o649, o650, o651, o0, o1, o654, o0, o656, o657, o658, o0, o1, o661, o0, o663, o664, o665, o666, o667 P, o668, o669, o670, o671, o672, o0, o15, o677 P, o0, o679, o680, o681, o0, o1, o684, o0, o686, o687, o688, o0, o1, o691, o0, o693, o694, o695, o0, o1, o698, o0, o700, o701, o702, o0, o1, o705, o0, o707, o708, o709, o710, o711 P, o799, o713, o714, o715, o716, o720, o15, o722 P, o0, o724, o725, o726, o0, o1, o729, o0, o731, o732, o733, o0, o1, o736, o0, o738, o739, o740, o0, o1, o743, o0, o745, o746, o747, o748, o749 P, o750, o751, o752, o720, o15, o758 P, o0, o760, o761, o762, o763, o0, o1, o766, o0, o768, o769, o770, o0, o1, o773, o0, o775, o776, o777, o0, o1, o780, o0, o782, o783, o784, o0, o1, o787, o0, o789, o790, o791, o792, o793 P, o794, o795, o796, o720, o15, o802 P, o0, o804, o805, o806, o807, o0, o1, o810, o0, o812, o813, o814, o0, o1, o817, o0, o819, o820, o821, o0, o1, o824, o0, o826, o827, o828, o0, o1, o831, o832, o833, o0, o1, o836, o0, o838, o839, o840, o0, o1, o843, o0, o845, o846, o847, o848, o849 P, o850, o851, o852, o0, o15, o857 P, o0, o859, o860, o861, o862, o0, o1, o865, o0, o867, o868, o869, o0, o1, o872, o873, o874, o0, o1, o877, o0, o879, o880, o881, o0, o1, o884, o0, o886, o887, o888, o0, o1, o891, o0, o893, o894, o895, o0, o1, o898, o0, o900, o901, o902, o903, o904 P, o905, o906, o907, o908, o909, o0, o1, o914, o0, o916, o917, o918, o0, o1, o921, o0, o923, o924, o925, o0, o1, o928, o0, o930, o931, o932, o0, o1, o935, o0, o937, o938, o939, o0, o1, o942, o0, o944, o945, o946, o0, o1, o949, o0, o951, o952, o953, o0, o1, o956, o0, o958, o959, o960, o0, o1, o963, o0, o965, o966, o967, o0, o1, o970, o0, o972, o973, o974, o0, o1, o977, o0, o979, o980, o981, o0, o1, o986, o0, o988, o989, o990, o0, o1, o993, o0, o995, o996, o997, o0, o1, o1000, o1001, o1002], {}⟩
noncomputable def K (P : Params) : Frag := (nat_lit 2, o4 P) :: (nat_lit 3, o982 P) :: (nat_lit 15, o0) :: (nat_lit 17, o9) :: (nat_lit 18, o0) :: (nat_lit 20, o12) :: (nat_lit 21, o13) :: (nat_lit 22, o14) :: (nat_lit 29, o21) :: (nat_lit 30, o0) :: (nat_lit 32, o24) :: (nat_lit 33, o0) :: (nat_lit 35, o27) :: (nat_lit 36, o28) :: (nat_lit 37, o0) :: (nat_lit 39, o31) :: (nat_lit 40, o0) :: (nat_lit 42, o34) :: (nat_lit 43, o35) :: (nat_lit 44, o36) :: (nat_lit 45, o37 P) :: (nat_lit 46, o59) :: (nat_lit 47, o39) :: (nat_lit 50, o45) :: (nat_lit 57, o0) :: (nat_lit 58, o53 P) :: (nat_lit 59, o54) :: (nat_lit 62, o45) :: (nat_lit 69, o0) :: (nat_lit 70, o68 P) :: (nat_lit 71, o69) :: (nat_lit 74, o0) :: (nat_lit 76, o74) :: (nat_lit 77, o0) :: (nat_lit 79, o77) :: (nat_lit 80, o78) :: (nat_lit 81, o0) :: (nat_lit 83, o81) :: (nat_lit 84, o0) :: (nat_lit 86, o84) :: (nat_lit 87, o85) :: (nat_lit 88, o0) :: (nat_lit 90, o88) :: (nat_lit 91, o0) :: (nat_lit 93, o91) :: (nat_lit 94, o92) :: (nat_lit 95, o0) :: (nat_lit 97, o95) :: (nat_lit 98, o0) :: (nat_lit 100, o98) :: (nat_lit 101, o99) :: (nat_lit 102, o0) :: (nat_lit 104, o102) :: (nat_lit 105, o0) :: (nat_lit 107, o105) :: (nat_lit 108, o106) :: (nat_lit 109, o0) :: (nat_lit 111, o109) :: (nat_lit 112, o0) :: (nat_lit 114, o112) :: (nat_lit 115, o113) :: (nat_lit 116, o0) :: (nat_lit 118, o118) :: (nat_lit 119, o0) :: (nat_lit 121, o121) :: (nat_lit 122, o122) :: (nat_lit 123, o0) :: (nat_lit 125, o0) :: (nat_lit 126, o0) :: (nat_lit 128, o128) :: (nat_lit 129, o129) :: (nat_lit 137, o0) :: (nat_lit 139, o141) :: (nat_lit 140, o0) :: (nat_lit 142, o144) :: (nat_lit 143, o145) :: (nat_lit 144, o0) :: (nat_lit 146, o148) :: (nat_lit 147, o0) :: (nat_lit 149, o151) :: (nat_lit 150, o152) :: (nat_lit 151, o0) :: (nat_lit 153, o155) :: (nat_lit 154, o0) :: (nat_lit 156, o158) :: (nat_lit 157, o159) :: (nat_lit 158, o0) :: (nat_lit 160, o162) :: (nat_lit 161, o0) :: (nat_lit 163, o165) :: (nat_lit 164, o166) :: (nat_lit 165, o0) :: (nat_lit 167, o169) :: (nat_lit 168, o0) :: (nat_lit 170, o172) :: (nat_lit 171, o173) :: (nat_lit 172, o0) :: (nat_lit 174, o176) :: (nat_lit 175, o0) :: (nat_lit 177, o179) :: (nat_lit 178, o180) :: (nat_lit 179, o0) :: (nat_lit 181, o183) :: (nat_lit 182, o0) :: (nat_lit 184, o186) :: (nat_lit 185, o187) :: (nat_lit 186, o0) :: (nat_lit 188, o190) :: (nat_lit 189, o0) :: (nat_lit 191, o193) :: (nat_lit 192, o194) :: (nat_lit 193, o0) :: (nat_lit 195, o197) :: (nat_lit 196, o0) :: (nat_lit 198, o200) :: (nat_lit 199, o201) :: (nat_lit 200, o202) :: (nat_lit 201, o203 P) :: (nat_lit 202, o204) :: (nat_lit 203, o205) :: (nat_lit 204, o206) :: (nat_lit 207, o0) :: (nat_lit 209, o213) :: (nat_lit 210, o0) :: (nat_lit 212, o216) :: (nat_lit 213, o217) :: (nat_lit 214, o0) :: (nat_lit 216, o220) :: (nat_lit 217, o0) :: (nat_lit 219, o223) :: (nat_lit 220, o224) :: (nat_lit 221, o0) :: (nat_lit 223, o227) :: (nat_lit 224, o0) :: (nat_lit 226, o230) :: (nat_lit 227, o231) :: (nat_lit 228, o0) :: (nat_lit 230, o234) :: (nat_lit 231, o0) :: (nat_lit 233, o237) :: (nat_lit 234, o238) :: (nat_lit 235, o0) :: (nat_lit 237, o241) :: (nat_lit 238, o0) :: (nat_lit 240, o244) :: (nat_lit 241, o245) :: (nat_lit 242, o0) :: (nat_lit 244, o248) :: (nat_lit 245, o0) :: (nat_lit 247, o251) :: (nat_lit 248, o252) :: (nat_lit 249, o0) :: (nat_lit 251, o255) :: (nat_lit 252, o0) :: (nat_lit 254, o258) :: (nat_lit 255, o259) :: (nat_lit 256, o0) :: (nat_lit 258, o262) :: (nat_lit 259, o0) :: (nat_lit 261, o265) :: (nat_lit 262, o266) :: (nat_lit 263, o0) :: (nat_lit 265, o269) :: (nat_lit 266, o0) :: (nat_lit 268, o272) :: (nat_lit 269, o273) :: (nat_lit 270, o0) :: (nat_lit 272, o276) :: (nat_lit 273, o0) :: (nat_lit 275, o279) :: (nat_lit 276, o280) :: (nat_lit 277, o0) :: (nat_lit 279, o283) :: (nat_lit 280, o0) :: (nat_lit 282, o286) :: (nat_lit 283, o287) :: (nat_lit 291, o0) :: (nat_lit 293, o300) :: (nat_lit 294, o0) :: (nat_lit 296, o303) :: (nat_lit 297, o304) :: (nat_lit 298, o0) :: (nat_lit 300, o307) :: (nat_lit 301, o0) :: (nat_lit 303, o310) :: (nat_lit 304, o311) :: (nat_lit 305, o0) :: (nat_lit 307, o314) :: (nat_lit 308, o0) :: (nat_lit 310, o317) :: (nat_lit 311, o318) :: (nat_lit 312, o0) :: (nat_lit 314, o321) :: (nat_lit 315, o0) :: (nat_lit 317, o324) :: (nat_lit 318, o325) :: (nat_lit 319, o0) :: (nat_lit 321, o328) :: (nat_lit 322, o0) :: (nat_lit 324, o331) :: (nat_lit 325, o332) :: (nat_lit 326, o0) :: (nat_lit 328, o335) :: (nat_lit 329, o0) :: (nat_lit 331, o338) :: (nat_lit 332, o339) :: (nat_lit 333, o340) :: (nat_lit 334, o341 P) :: (nat_lit 335, o342) :: (nat_lit 336, o343) :: (nat_lit 337, o344) :: (nat_lit 340, o0) :: (nat_lit 342, o351) :: (nat_lit 343, o0) :: (nat_lit 345, o354) :: (nat_lit 346, o355) :: (nat_lit 347, o0) :: (nat_lit 349, o358) :: (nat_lit 350, o0) :: (nat_lit 352, o361) :: (nat_lit 353, o362) :: (nat_lit 354, o0) :: (nat_lit 356, o365) :: (nat_lit 357, o0) :: (nat_lit 359, o368) :: (nat_lit 360, o369) :: (nat_lit 361, o0) :: (nat_lit 363, o372) :: (nat_lit 364, o0) :: (nat_lit 366, o375) :: (nat_lit 367, o376) :: (nat_lit 368, o0) :: (nat_lit 370, o379) :: (nat_lit 371, o0) :: (nat_lit 373, o382) :: (nat_lit 374, o383) :: (nat_lit 375, o0) :: (nat_lit 377, o386) :: (nat_lit 378, o0) :: (nat_lit 380, o389) :: (nat_lit 381, o390) :: (nat_lit 382, o0) :: (nat_lit 384, o393) :: (nat_lit 385, o0) :: (nat_lit 387, o396) :: (nat_lit 388, o397) :: (nat_lit 389, o0) :: (nat_lit 391, o400) :: (nat_lit 392, o0) :: (nat_lit 394, o403) :: (nat_lit 395, o404) :: (nat_lit 396, o0) :: (nat_lit 398, o407) :: (nat_lit 399, o0) :: (nat_lit 401, o410) :: (nat_lit 402, o411) :: (nat_lit 403, o0) :: (nat_lit 405, o414) :: (nat_lit 406, o0) :: (nat_lit 408, o417) :: (nat_lit 409, o418) :: (nat_lit 410, o0) :: (nat_lit 412, o421) :: (nat_lit 413, o0) :: (nat_lit 415, o424) :: (nat_lit 416, o425) :: (nat_lit 417, o0) :: (nat_lit 419, o430) :: (nat_lit 420, o0) :: (nat_lit 422, o433) :: (nat_lit 423, o434) :: (nat_lit 424, o0) :: (nat_lit 426, o437) :: (nat_lit 427, o0) :: (nat_lit 429, o440) :: (nat_lit 430, o441) :: (nat_lit 431, o0) :: (nat_lit 433, o444) :: (nat_lit 434, o0) :: (nat_lit 436, o447) :: (nat_lit 437, o448) :: (nat_lit 438, o0) :: (nat_lit 440, o451) :: (nat_lit 441, o0) :: (nat_lit 443, o454) :: (nat_lit 444, o455) :: (nat_lit 452, o0) :: (nat_lit 454, o467) :: (nat_lit 455, o0) :: (nat_lit 457, o470) :: (nat_lit 458, o471) :: (nat_lit 459, o0) :: (nat_lit 461, o474) :: (nat_lit 462, o0) :: (nat_lit 464, o477) :: (nat_lit 465, o478) :: (nat_lit 466, o0) :: (nat_lit 468, o481) :: (nat_lit 469, o0) :: (nat_lit 471, o484) :: (nat_lit 472, o485) :: (nat_lit 473, o0) :: (nat_lit 475, o488) :: (nat_lit 476, o0) :: (nat_lit 478, o491) :: (nat_lit 479, o492) :: (nat_lit 480, o0) :: (nat_lit 482, o495) :: (nat_lit 483, o0) :: (nat_lit 485, o498) :: (nat_lit 486, o499) :: (nat_lit 487, o0) :: (nat_lit 489, o502) :: (nat_lit 490, o0) :: (nat_lit 492, o505) :: (nat_lit 493, o506) :: (nat_lit 494, o0) :: (nat_lit 497, o510) :: (nat_lit 498, o511) :: (nat_lit 499, o0) :: (nat_lit 502, o515) :: (nat_lit 503, o516) :: (nat_lit 504, o0) :: (nat_lit 506, o519) :: (nat_lit 507, o0) :: (nat_lit 509, o522) :: (nat_lit 510, o523) :: (nat_lit 511, o0) :: (nat_lit 513, o526) :: (nat_lit 514, o0) :: (nat_lit 516, o529) :: (nat_lit 517, o530) :: (nat_lit 518, o0) :: (nat_lit 520, o533) :: (nat_lit 521, o0) :: (nat_lit 523, o536) :: (nat_lit 524, o537) :: (nat_lit 525, o0) :: (nat_lit 527, o540) :: (nat_lit 528, o0) :: (nat_lit 530, o543) :: (nat_lit 531, o544) :: (nat_lit 532, o545) :: (nat_lit 533, o546 P) :: (nat_lit 534, o547) :: (nat_lit 535, o548) :: (nat_lit 536, o549) :: (nat_lit 539, o0) :: (nat_lit 541, o556) :: (nat_lit 542, o0) :: (nat_lit 544, o559) :: (nat_lit 545, o560) :: (nat_lit 553, o0) :: (nat_lit 555, o572) :: (nat_lit 556, o0) :: (nat_lit 558, o575) :: (nat_lit 559, o576) :: (nat_lit 560, o0) :: (nat_lit 562, o579) :: (nat_lit 563, o0) :: (nat_lit 565, o582) :: (nat_lit 566, o583) :: (nat_lit 567, o0) :: (nat_lit 569, o586) :: (nat_lit 570, o0) :: (nat_lit 572, o589) :: (nat_lit 573, o590) :: (nat_lit 574, o0) :: (nat_lit 576, o593) :: (nat_lit 577, o0) :: (nat_lit 579, o596) :: (nat_lit 580, o597) :: (nat_lit 581, o0) :: (nat_lit 584, o601) :: (nat_lit 585, o602) :: (nat_lit 586, o0) :: (nat_lit 588, o605) :: (nat_lit 589, o0) :: (nat_lit 591, o608) :: (nat_lit 592, o609) :: (nat_lit 593, o0) :: (nat_lit 595, o612) :: (nat_lit 596, o0) :: (nat_lit 598, o615) :: (nat_lit 599, o616) :: (nat_lit 600, o0) :: (nat_lit 602, o619) :: (nat_lit 603, o0) :: (nat_lit 605, o622) :: (nat_lit 606, o623) :: (nat_lit 607, o0) :: (nat_lit 609, o626) :: (nat_lit 610, o0) :: (nat_lit 612, o629) :: (nat_lit 613, o630) :: (nat_lit 614, o0) :: (nat_lit 616, o633) :: (nat_lit 617, o0) :: (nat_lit 619, o636) :: (nat_lit 620, o637) :: (nat_lit 621, o0) :: (nat_lit 623, o640) :: (nat_lit 624, o0) :: (nat_lit 626, o643) :: (nat_lit 627, o644) :: (nat_lit 628, o0) :: (nat_lit 630, o647) :: (nat_lit 631, o0) :: (nat_lit 633, o650) :: (nat_lit 634, o651) :: (nat_lit 635, o0) :: (nat_lit 637, o654) :: (nat_lit 638, o0) :: (nat_lit 640, o657) :: (nat_lit 641, o658) :: (nat_lit 642, o0) :: (nat_lit 644, o661) :: (nat_lit 645, o0) :: (nat_lit 647, o664) :: (nat_lit 648, o665) :: (nat_lit 649, o666) :: (nat_lit 650, o667 P) :: (nat_lit 651, o668) :: (nat_lit 652, o669) :: (nat_lit 653, o670) :: (nat_lit 663, o0) :: (nat_lit 665, o684) :: (nat_lit 666, o0) :: (nat_lit 668, o687) :: (nat_lit 669, o688) :: (nat_lit 670, o0) :: (nat_lit 672, o691) :: (nat_lit 673, o0) :: (nat_lit 675, o694) :: (nat_lit 676, o695) :: (nat_lit 677, o0) :: (nat_lit 679, o698) :: (nat_lit 680, o0) :: (nat_lit 682, o701) :: (nat_lit 683, o702) :: (nat_lit 684, o0) :: (nat_lit 686, o705) :: (nat_lit 687, o0) :: (nat_lit 689, o708) :: (nat_lit 690, o709) :: (nat_lit 691, o710) :: (nat_lit 692, o711 P) :: (nat_lit 693, o799) :: (nat_lit 694, o713) :: (nat_lit 695, o714) :: (nat_lit 698, o720) :: (nat_lit 705, o0) :: (nat_lit 707, o729) :: (nat_lit 708, o0) :: (nat_lit 710, o732) :: (nat_lit 711, o733) :: (nat_lit 712, o0) :: (nat_lit 714, o736) :: (nat_lit 715, o0) :: (nat_lit 717, o739) :: (nat_lit 718, o740) :: (nat_lit 719, o0) :: (nat_lit 721, o743) :: (nat_lit 722, o0) :: (nat_lit 724, o746) :: (nat_lit 725, o747) :: (nat_lit 726, o748) :: (nat_lit 727, o749 P) :: (nat_lit 728, o750) :: (nat_lit 731, o720) :: (nat_lit 738, o763) :: (nat_lit 739, o0) :: (nat_lit 741, o766) :: (nat_lit 742, o0) :: (nat_lit 744, o769) :: (nat_lit 745, o770) :: (nat_lit 746, o0) :: (nat_lit 748, o773) :: (nat_lit 749, o0) :: (nat_lit 751, o776) :: (nat_lit 752, o777) :: (nat_lit 753, o0) :: (nat_lit 755, o780) :: (nat_lit 756, o0) :: (nat_lit 758, o783) :: (nat_lit 759, o784) :: (nat_lit 760, o0) :: (nat_lit 762, o787) :: (nat_lit 763, o0) :: (nat_lit 765, o790) :: (nat_lit 766, o791) :: (nat_lit 767, o792) :: (nat_lit 768, o793 P) :: (nat_lit 769, o794) :: (nat_lit 772, o720) :: (nat_lit 779, o807) :: (nat_lit 780, o0) :: (nat_lit 782, o810) :: (nat_lit 783, o0) :: (nat_lit 785, o813) :: (nat_lit 786, o814) :: (nat_lit 787, o0) :: (nat_lit 789, o817) :: (nat_lit 790, o0) :: (nat_lit 792, o820) :: (nat_lit 793, o821) :: (nat_lit 794, o0) :: (nat_lit 796, o824) :: (nat_lit 797, o0) :: (nat_lit 799, o827) :: (nat_lit 800, o828) :: (nat_lit 801, o0) :: (nat_lit 804, o832) :: (nat_lit 805, o833) :: (nat_lit 806, o0) :: (nat_lit 808, o836) :: (nat_lit 809, o0) :: (nat_lit 811, o839) :: (nat_lit 812, o840) :: (nat_lit 813, o0) :: (nat_lit 815, o843) :: (nat_lit 816, o0) :: (nat_lit 818, o846) :: (nat_lit 819, o847) :: (nat_lit 820, o848) :: (nat_lit 821, o849 P) :: (nat_lit 822, o850) :: (nat_lit 832, o862) :: (nat_lit 833, o0) :: (nat_lit 835, o865) :: (nat_lit 836, o0) :: (nat_lit 838, o868) :: (nat_lit 839, o869) :: (nat_lit 840, o0) :: (nat_lit 843, o873) :: (nat_lit 844, o874) :: (nat_lit 845, o0) :: (nat_lit 847, o877) :: (nat_lit 848, o0) :: (nat_lit 850, o880) :: (nat_lit 851, o881) :: (nat_lit 852, o0) :: (nat_lit 854, o884) :: (nat_lit 855, o0) :: (nat_lit 857, o887) :: (nat_lit 858, o888) :: (nat_lit 859, o0) :: (nat_lit 861, o891) :: (nat_lit 862, o0) :: (nat_lit 864, o894) :: (nat_lit 865, o895) :: (nat_lit 866, o0) :: (nat_lit 868, o898) :: (nat_lit 869, o0) :: (nat_lit 871, o901) :: (nat_lit 872, o902) :: (nat_lit 873, o903) :: (nat_lit 874, o904 P) :: (nat_lit 875, o905) :: (nat_lit 876, o906) :: (nat_lit 877, o907) :: (nat_lit 880, o0) :: (nat_lit 882, o914) :: (nat_lit 883, o0) :: (nat_lit 885, o917) :: (nat_lit 886, o918) :: (nat_lit 887, o0) :: (nat_lit 889, o921) :: (nat_lit 890, o0) :: (nat_lit 892, o924) :: (nat_lit 893, o925) :: (nat_lit 894, o0) :: (nat_lit 896, o928) :: (nat_lit 897, o0) :: (nat_lit 899, o931) :: (nat_lit 900, o932) :: (nat_lit 901, o0) :: (nat_lit 903, o935) :: (nat_lit 904, o0) :: (nat_lit 906, o938) :: (nat_lit 907, o939) :: (nat_lit 908, o0) :: (nat_lit 910, o942) :: (nat_lit 911, o0) :: (nat_lit 913, o945) :: (nat_lit 914, o946) :: (nat_lit 915, o0) :: (nat_lit 917, o949) :: (nat_lit 918, o0) :: (nat_lit 920, o952) :: (nat_lit 921, o953) :: (nat_lit 922, o0) :: (nat_lit 924, o956) :: (nat_lit 925, o0) :: (nat_lit 927, o959) :: (nat_lit 928, o960) :: (nat_lit 929, o0) :: (nat_lit 931, o963) :: (nat_lit 932, o0) :: (nat_lit 934, o966) :: (nat_lit 935, o967) :: (nat_lit 936, o0) :: (nat_lit 938, o970) :: (nat_lit 939, o0) :: (nat_lit 941, o973) :: (nat_lit 942, o974) :: (nat_lit 943, o0) :: (nat_lit 945, o977) :: (nat_lit 946, o0) :: (nat_lit 948, o980) :: (nat_lit 949, o981) :: (nat_lit 950, o0) :: (nat_lit 952, o986) :: (nat_lit 953, o0) :: (nat_lit 955, o989) :: (nat_lit 956, o990) :: (nat_lit 957, o0) :: (nat_lit 959, o993) :: (nat_lit 960, o0) :: (nat_lit 962, o996) :: (nat_lit 963, o997) :: (nat_lit 964, o0) :: (nat_lit 967, o1001) :: (nat_lit 968, o1002) :: []
noncomputable def kAs : List Addr := [2, 3, 15, 17, 18, 20, 21, 22, 29, 30, 32, 33, 35, 36, 37, 39, 40, 42, 43, 44, 45, 46, 47, 50, 57, 58, 59, 62, 69, 70, 71, 74, 76, 77, 79, 80, 81, 83, 84, 86, 87, 88, 90, 91, 93, 94, 95, 97, 98, 100, 101, 102, 104, 105, 107, 108, 109, 111, 112, 114, 115, 116, 118, 119, 121, 122, 123, 125, 126, 128, 129, 137, 139, 140, 142, 143, 144, 146, 147, 149, 150, 151, 153, 154, 156, 157, 158, 160, 161, 163, 164, 165, 167, 168, 170, 171, 172, 174, 175, 177, 178, 179, 181, 182, 184, 185, 186, 188, 189, 191, 192, 193, 195, 196, 198, 199, 200, 201, 202, 203, 204, 207, 209, 210, 212, 213, 214, 216, 217, 219, 220, 221, 223, 224, 226, 227, 228, 230, 231, 233, 234, 235, 237, 238, 240, 241, 242, 244, 245, 247, 248, 249, 251, 252, 254, 255, 256, 258, 259, 261, 262, 263, 265, 266, 268, 269, 270, 272, 273, 275, 276, 277, 279, 280, 282, 283, 291, 293, 294, 296, 297, 298, 300, 301, 303, 304, 305, 307, 308, 310, 311, 312, 314, 315, 317, 318, 319, 321, 322, 324, 325, 326, 328, 329, 331, 332, 333, 334, 335, 336, 337, 340, 342, 343, 345, 346, 347, 349, 350, 352, 353, 354, 356, 357, 359, 360, 361, 363, 364, 366, 367, 368, 370, 371, 373, 374, 375, 377, 378, 380, 381, 382, 384, 385, 387, 388, 389, 391, 392, 394, 395, 396, 398, 399, 401, 402, 403, 405, 406, 408, 409, 410, 412, 413, 415, 416, 417, 419, 420, 422, 423, 424, 426, 427, 429, 430, 431, 433, 434, 436, 437, 438, 440, 441, 443, 444, 452, 454, 455, 457, 458, 459, 461, 462, 464, 465, 466, 468, 469, 471, 472, 473, 475, 476, 478, 479, 480, 482, 483, 485, 486, 487, 489, 490, 492, 493, 494, 497, 498, 499, 502, 503, 504, 506, 507, 509, 510, 511, 513, 514, 516, 517, 518, 520, 521, 523, 524, 525, 527, 528, 530, 531, 532, 533, 534, 535, 536, 539, 541, 542, 544, 545, 553, 555, 556, 558, 559, 560, 562, 563, 565, 566, 567, 569, 570, 572, 573, 574, 576, 577, 579, 580, 581, 584, 585, 586, 588, 589, 591, 592, 593, 595, 596, 598, 599, 600, 602, 603, 605, 606, 607, 609, 610, 612, 613, 614, 616, 617, 619, 620, 621, 623, 624, 626, 627, 628, 630, 631, 633, 634, 635, 637, 638, 640, 641, 642, 644, 645, 647, 648, 649, 650, 651, 652, 653, 663, 665, 666, 668, 669, 670, 672, 673, 675, 676, 677, 679, 680, 682, 683, 684, 686, 687, 689, 690, 691, 692, 693, 694, 695, 698, 705, 707, 708, 710, 711, 712, 714, 715, 717, 718, 719, 721, 722, 724, 725, 726, 727, 728, 731, 738, 739, 741, 742, 744, 745, 746, 748, 749, 751, 752, 753, 755, 756, 758, 759, 760, 762, 763, 765, 766, 767, 768, 769, 772, 779, 780, 782, 783, 785, 786, 787, 789, 790, 792, 793, 794, 796, 797, 799, 800, 801, 804, 805, 806, 808, 809, 811, 812, 813, 815, 816, 818, 819, 820, 821, 822, 832, 833, 835, 836, 838, 839, 840, 843, 844, 845, 847, 848, 850, 851, 852, 854, 855, 857, 858, 859, 861, 862, 864, 865, 866, 868, 869, 871, 872, 873, 874, 875, 876, 877, 880, 882, 883, 885, 886, 887, 889, 890, 892, 893, 894, 896, 897, 899, 900, 901, 903, 904, 906, 907, 908, 910, 911, 913, 914, 915, 917, 918, 920, 921, 922, 924, 925, 927, 928, 929, 931, 932, 934, 935, 936, 938, 939, 941, 942, 943, 945, 946, 948, 949, 950, 952, 953, 955, 956, 957, 959, 960, 962, 963, 964, 967, 968]
noncomputable def tenv : Env := { scope := pw.main.scope, locals := mainNs, globals := mainNs, cells := [], code := (.ref 13), frame := some 14 }
noncomputable def tcode : Code := Code.body (behindTheImports pw) tenv
noncomputable abbrev m0 : Nat := 11
noncomputable abbrev ann : Option Value := (some (.ref 6))
theorem pre : ∀ (w : World) (os : OsState), topGo treeTable pw w m0 ann 12 ⟨boot_heap w.params, #[], boot_drawn, boot_toks, os⟩ (topStub pw) = some (⟨hA w.params, #[], {}, 187, os⟩, ⟨denote treeTable tcode, tcode, ⟨0, 0, 0, 0⟩, [topFrame ⟨0, 0, 0, 0⟩]⟩) := by intro w os; kernel_rfl
theorem block : ∀ (w : World) (os : OsState), segRun treeTable pw w m0 ann 1 1 ⟨hA w.params, #[], {}, 187, os⟩ (blockOf (behindTheImports pw) tenv tcode ⟨0, 0, 0, 0⟩ [topFrame ⟨0, 0, 0, 0⟩]) = some (.next, SharedT.abs ⟨t0 w.params, 15, {}, #[], {}, 187, os⟩, tcode, ⟨0, 0, 0, 0⟩) := by intro w os; kernel_rfl
noncomputable def sts0 : List Stmt := ((behindTheImports pw).drop 0).take 3
theorem pc0 : ∀ (w : World) (os : OsState), segRunT treeTable pw w m0 ann 1 301 ⟨t0 w.params, 15, {}, #[], {}, 187, os⟩ (piecesOf sts0 tenv tcode ⟨0, 0, 0, 0⟩ [topFrame ⟨0, 0, 0, 0⟩]) = some (.next, ⟨t1 w.params, 50, {}, #[], {}, 234, os⟩, tcode, ⟨5, 0, 15, 29⟩) := by intro w os; rewrite [Fast.te10110043849684766642, Fast.te14364793385576792824]; kernel_rfl
noncomputable def sts1 : List Stmt := ((behindTheImports pw).drop 3).take 1
theorem pc1 : ∀ (w : World) (os : OsState), segRunT treeTable pw w m0 ann 1 214 ⟨t1 w.params, 50, {}, #[], {}, 234, os⟩ (piecesOf sts1 tenv tcode ⟨5, 0, 15, 29⟩ [topFrame ⟨0, 0, 0, 0⟩]) = some (.next, ⟨t2 w.params, 62, {}, #[], {}, 250, os⟩, tcode, ⟨16, 0, 17, 8⟩) := by intro w os; rewrite [Fast.te10110043849684766642, Fast.te14364793385576792824]; kernel_rfl
noncomputable def sts2 : List Stmt := ((behindTheImports pw).drop 4).take 7
theorem pc2 : ∀ (w : World) (os : OsState), segRunT treeTable pw w m0 ann 1 397 ⟨t2 w.params, 62, {}, #[], {}, 250, os⟩ (piecesOf sts2 tenv tcode ⟨16, 0, 17, 8⟩ [topFrame ⟨0, 0, 0, 0⟩]) = some (.next, ⟨t3 w.params, 116, {}, #[], {}, 317, os⟩, tcode, ⟨33, 0, 39, 16⟩) := by intro w os; rewrite [Fast.te10110043849684766642, Fast.te14364793385576792824]; kernel_rfl
noncomputable def sts3 : List Stmt := ((behindTheImports pw).drop 11).take 13
theorem pc3 : ∀ (w : World) (os : OsState), segRunT treeTable pw w m0 ann 1 157 ⟨t3 w.params, 116, {}, #[], {}, 317, os⟩ (piecesOf sts3 tenv tcode ⟨33, 0, 39, 16⟩ [topFrame ⟨0, 0, 0, 0⟩]) = some (.next, ⟨t4 w.params, 130, {}, #[], {}, 352, os⟩, tcode, ⟨54, 0, 54, 10⟩) := by intro w os; rewrite [Fast.te10110043849684766642, Fast.te14364793385576792824]; kernel_rfl
noncomputable def sts4 : List Stmt := ((behindTheImports pw).drop 24).take 1
theorem pc4 : ∀ (w : World) (os : OsState), segRunT treeTable pw w m0 ann 1 486 ⟨t4 w.params, 130, {}, #[], {}, 352, os⟩ (piecesOf sts4 tenv tcode ⟨54, 0, 54, 10⟩ [topFrame ⟨0, 0, 0, 0⟩]) = some (.next, ⟨t5 w.params, 207, {}, #[], {}, 452, os⟩, tcode, ⟨55, 0, 107, 16⟩) := by intro w os; rewrite [Fast.te10110043849684766642, Fast.te14364793385576792824]; kernel_rfl
noncomputable def sts5 : List Stmt := ((behindTheImports pw).drop 25).take 16
theorem pc5 : ∀ (w : World) (os : OsState), segRunT treeTable pw w m0 ann 1 401 ⟨t5 w.params, 207, {}, #[], {}, 452, os⟩ (piecesOf sts5 tenv tcode ⟨55, 0, 107, 16⟩ [topFrame ⟨0, 0, 0, 0⟩]) = some (.next, ⟨t6 w.params, 284, {}, #[], {}, 575, os⟩, tcode, ⟨181, 0, 181, 8⟩) := by intro w os; rewrite [Fast.te10110043849684766642, Fast.te14364793385576792824]; kernel_rfl
noncomputable def sts6 : List Stmt := ((behindTheImports pw).drop 41).take 2
theorem pc6 : ∀ (w : World) (os : OsState), segRunT treeTable pw w m0 ann 1 19 ⟨t6 w.params, 284, {}, #[], {}, 575, os⟩ (piecesOf sts6 tenv tcode ⟨181, 0, 181, 8⟩ [topFrame ⟨0, 0, 0, 0⟩]) = some (.next, ⟨t7 w.params, 284, {}, #[], {}, 579, os⟩, tcode, ⟨183, 0, 183, 10⟩) := by intro w os; rewrite [Fast.te10110043849684766642, Fast.te14364793385576792824]; kernel_rfl
noncomputable def sts7 : List Stmt := ((behindTheImports pw).drop 43).take 1
theorem pc7 : ∀ (w : World) (os : OsState), segRunT treeTable pw w m0 ann 1 384 ⟨t7 w.params, 284, {}, #[], {}, 579, os⟩ (piecesOf sts7 tenv tcode ⟨183, 0, 183, 10⟩ [topFrame ⟨0, 0, 0, 0⟩]) = some (.next, ⟨t8 w.params, 340, {}, #[], {}, 649, os⟩, tcode, ⟨184, 0, 205, 24⟩) := by intro w os; rewrite [Fast.te10110043849684766642, Fast.te14364793385576792824]; kernel_rfl
noncomputable def sts8 : List Stmt := ((behindTheImports pw).drop 44).take 13
theorem pc8 : ∀ (w : World) (os : OsState), segRunT treeTable pw w m0 ann 1 375 ⟨t8 w.params, 340, {}, #[], {}, 649, os⟩ (piecesOf sts8 tenv tcode ⟨184, 0, 205, 24⟩ [topFrame ⟨0, 0, 0, 0⟩]) = some (.next, ⟨t9 w.params, 417, {}, #[], {}, 767, os⟩, tcode, ⟨308, 0, 310, 62⟩) := by intro w os; rewrite [Fast.te10110043849684766642, Fast.te14364793385576792824]; kernel_rfl
noncomputable def sts9 : List Stmt := ((behindTheImports pw).drop 57).take 9
theorem pc9 : ∀ (w : World) (os : OsState), segRunT treeTable pw w m0 ann 1 177 ⟨t9 w.params, 417, {}, #[], {}, 767, os⟩ (piecesOf sts9 tenv tcode ⟨308, 0, 310, 62⟩ [topFrame ⟨0, 0, 0, 0⟩]) = some (.next, ⟨t10 w.params, 445, {}, #[], {}, 820, os⟩, tcode, ⟨354, 0, 354, 5⟩) := by intro w os; rewrite [Fast.te10110043849684766642, Fast.te14364793385576792824]; kernel_rfl
noncomputable def sts10 : List Stmt := ((behindTheImports pw).drop 66).take 1
theorem pc10 : ∀ (w : World) (os : OsState), segRunT treeTable pw w m0 ann 1 575 ⟨t10 w.params, 445, {}, #[], {}, 820, os⟩ (piecesOf sts10 tenv tcode ⟨354, 0, 354, 5⟩ [topFrame ⟨0, 0, 0, 0⟩]) = some (.next, ⟨t11 w.params, 539, {}, #[], {}, 941, os⟩, tcode, ⟨355, 0, 396, 36⟩) := by intro w os; rewrite [Fast.te10110043849684766642, Fast.te14364793385576792824]; kernel_rfl
noncomputable def sts11 : List Stmt := ((behindTheImports pw).drop 67).take 1
theorem pc11 : ∀ (w : World) (os : OsState), segRunT treeTable pw w m0 ann 1 32 ⟨t11 w.params, 539, {}, #[], {}, 941, os⟩ (piecesOf sts11 tenv tcode ⟨355, 0, 396, 36⟩ [topFrame ⟨0, 0, 0, 0⟩]) = some (.next, ⟨t12 w.params, 546, {}, #[], {}, 950, os⟩, tcode, ⟨397, 0, 400, 40⟩) := by intro w os; rewrite [Fast.te10110043849684766642, Fast.te14364793385576792824]; kernel_rfl
noncomputable def sts12 : List Stmt := ((behindTheImports pw).drop 68).take 1
theorem pc12 : ∀ (w : World) (os : OsState), segRunT treeTable pw w m0 ann 1 656 ⟨t12 w.params, 546, {}, #[], {}, 950, os⟩ (piecesOf sts12 tenv tcode ⟨397, 0, 400, 40⟩ [topFrame ⟨0, 0, 0, 0⟩]) = some (.next, ⟨t13 w.params, 656, {}, #[], {}, 1102, os⟩, tcode, ⟨401, 0, 496, 16⟩) := by intro w os; rewrite [Fast.te10110043849684766642, Fast.te14364793385576792824]; kernel_rfl
noncomputable def sts13 : List Stmt := ((behindTheImports pw).drop 69).take 2
theorem pc13 : ∀ (w : World) (os : OsState), segRunT treeTable pw w m0 ann 1 325 ⟨t13 w.params, 656, {}, #[], {}, 1102, os⟩ (piecesOf sts13 tenv tcode ⟨401, 0, 496, 16⟩ [topFrame ⟨0, 0, 0, 0⟩]) = some (.next, ⟨t14 w.params, 698, {}, #[], {}, 1154, os⟩, tcode, ⟨498, 0, 510, 17⟩) := by intro w os; rewrite [Fast.te10110043849684766642, Fast.te14364793385576792824]; kernel_rfl
noncomputable def sts14 : List Stmt := ((behindTheImports pw).drop 71).take 1
theorem pc14 : ∀ (w : World) (os : OsState), segRunT treeTable pw w m0 ann 1 308 ⟨t14 w.params, 698, {}, #[], {}, 1154, os⟩ (piecesOf sts14 tenv tcode ⟨498, 0, 510, 17⟩ [topFrame ⟨0, 0, 0, 0⟩]) = some (.next, ⟨t15 w.params, 731, {}, #[], {}, 1193, os⟩, tcode, ⟨511, 0, 521, 30⟩) := by intro w os; rewrite [Fast.te10110043849684766642, Fast.te14364793385576792824]; kernel_rfl
noncomputable def sts15 : List Stmt := ((behindTheImports pw).drop 72).take 1
theorem pc15 : ∀ (w : World) (os : OsState), segRunT treeTable pw w m0 ann 1 344 ⟨t15 w.params, 731, {}, #[], {}, 1193, os⟩ (piecesOf sts15 tenv tcode ⟨511, 0, 521, 30⟩ [topFrame ⟨0, 0, 0, 0⟩]) = some (.next, ⟨t16 w.params, 772, {}, #[], {}, 1243, os⟩, tcode, ⟨522, 0, 536, 44⟩) := by intro w os; rewrite [Fast.te10110043849684766642, Fast.te14364793385576792824]; kernel_rfl
noncomputable def sts16 : List Stmt := ((behindTheImports pw).drop 73).take 1
theorem pc16 : ∀ (w : World) (os : OsState), segRunT treeTable pw w m0 ann 1 416 ⟨t16 w.params, 772, {}, #[], {}, 1243, os⟩ (piecesOf sts16 tenv tcode ⟨522, 0, 536, 44⟩ [topFrame ⟨0, 0, 0, 0⟩]) = some (.next, ⟨t17 w.params, 825, {}, #[], {}, 1319, os⟩, tcode, ⟨537, 0, 564, 17⟩) := by intro w os; rewrite [Fast.te10110043849684766642, Fast.te14364793385576792824]; kernel_rfl
noncomputable def sts17 : List Stmt := ((behindTheImports pw).drop 74).take 2
theorem pc17 : ∀ (w : World) (os : OsState), segRunT treeTable pw w m0 ann 1 395 ⟨t17 w.params, 825, {}, #[], {}, 1319, os⟩ (piecesOf sts17 tenv tcode ⟨537, 0, 564, 17⟩ [topFrame ⟨0, 0, 0, 0⟩]) = some (.next, ⟨t18 w.params, 880, {}, #[], {}, 1394, os⟩, tcode, ⟨590, 0, 590, 8⟩) := by intro w os; rewrite [Fast.te10110043849684766642, Fast.te14364793385576792824]; kernel_rfl
noncomputable def sts18 : List Stmt := ((behindTheImports pw).drop 76).take 16
theorem pc18 : ∀ (w : World) (os : OsState), segRunT treeTable pw w m0 ann 1 374 ⟨t18 w.params, 880, {}, #[], {}, 1394, os⟩ (piecesOf sts18 tenv tcode ⟨590, 0, 590, 8⟩ [topFrame ⟨0, 0, 0, 0⟩]) = some (.next, ⟨t19 w.params, 950, {}, #[], {}, 1505, os⟩, tcode, ⟨659, 0, 665, 71⟩) := by intro w os; rewrite [Fast.te10110043849684766642, Fast.te14364793385576792824]; kernel_rfl
noncomputable def sts19 : List Stmt := ((behindTheImports pw).drop 92).take 3
theorem pc19 : ∀ (w : World) (os : OsState), segRunT treeTable pw w m0 ann 1 95 ⟨t19 w.params, 950, {}, #[], {}, 1505, os⟩ (piecesOf sts19 tenv tcode ⟨659, 0, 665, 71⟩ [topFrame ⟨0, 0, 0, 0⟩]) = some (.next, ⟨t20 w.params, 969, {}, #[], {}, 1535, os⟩, tcode, ⟨688, 0, 738, 87⟩) := by intro w os; rewrite [Fast.te10110043849684766642, Fast.te14364793385576792824]; kernel_rfl
theorem body_all : behindTheImports pw = sts0 ++ (sts1 ++ (sts2 ++ (sts3 ++ (sts4 ++ (sts5 ++ (sts6 ++ (sts7 ++ (sts8 ++ (sts9 ++ (sts10 ++ (sts11 ++ (sts12 ++ (sts13 ++ (sts14 ++ (sts15 ++ (sts16 ++ (sts17 ++ (sts18 ++ (sts19 ++ ([])))))))))))))))))))) := by kernel_rfl
theorem fin : ∀ (w : World) (os : OsState), topRun treeTable pw w m0 ann 2 (SharedT.abs ⟨t20 w.params, 969, {}, #[], {}, 1535, os⟩) ⟨doneF .next, tcode, ⟨688, 0, 738, 87⟩, [topFrame ⟨0, 0, 0, 0⟩]⟩ = some ⟨hF w.params, #[], {}, 1535, os⟩ := by intro w os; kernel_rfl
theorem run : ∀ (w : World) (os : OsState), topRun treeTable pw w m0 ann (12 + (1 + (301 + (214 + (397 + (157 + (486 + (401 + (19 + (384 + (375 + (177 + (575 + (32 + (656 + (325 + (308 + (344 + (416 + (395 + (374 + (95 + (2))))))))))))))))))))))) ⟨boot_heap w.params, #[], boot_drawn, boot_toks, os⟩ (topStub pw) = some ⟨hF w.params, #[], {}, 1535, os⟩ := by
  intro w os
  refine go_top (pre w os) (piece_block (block w os) ?_)
  rewrite [body_all]
  refine piece_app (segRun_of (pc0 w os)) ?_
  refine piece_app (segRun_of (pc1 w os)) ?_
  refine piece_app (segRun_of (pc2 w os)) ?_
  refine piece_app (segRun_of (pc3 w os)) ?_
  refine piece_app (segRun_of (pc4 w os)) ?_
  refine piece_app (segRun_of (pc5 w os)) ?_
  refine piece_app (segRun_of (pc6 w os)) ?_
  refine piece_app (segRun_of (pc7 w os)) ?_
  refine piece_app (segRun_of (pc8 w os)) ?_
  refine piece_app (segRun_of (pc9 w os)) ?_
  refine piece_app (segRun_of (pc10 w os)) ?_
  refine piece_app (segRun_of (pc11 w os)) ?_
  refine piece_app (segRun_of (pc12 w os)) ?_
  refine piece_app (segRun_of (pc13 w os)) ?_
  refine piece_app (segRun_of (pc14 w os)) ?_
  refine piece_app (segRun_of (pc15 w os)) ?_
  refine piece_app (segRun_of (pc16 w os)) ?_
  refine piece_app (segRun_of (pc17 w os)) ?_
  refine piece_app (segRun_of (pc18 w os)) ?_
  refine piece_app (segRun_of (pc19 w os)) ?_
  exact fin w os
end Mine
namespace Mine
noncomputable abbrev lawSt : Stmt := by refine (?f : (st 94 = some ?s) → Stmt) ?h; (case h => with_unfolding_all rfl); (case f => exact fun _ => ?s)
noncomputable def q : Program := { pw with main := { pw.main with body := [lawSt] } }
noncomputable def loose : List Str := [Str.ofString "_wall", Str.ofString "MintError", Str.ofString "OperandError", Str.ofString "MachineError", Str.ofString "mask", Str.ofString "wrap", Str.ofString "signed", Str.ofString "extended", Str.ofString "bit", Str.ofString "ones", Str.ofString "parity", Str.ofString "CONDITIONS", Str.ofString "condition_names", Str.ofString "CF", Str.ofString "PF", Str.ofString "AF", Str.ofString "ZF", Str.ofString "SF", Str.ofString "DF", Str.ofString "OF", Str.ofString "FLAG_NAMES", Str.ofString "Flags", Str.ofString "condition_number", Str.ofString "holds_number", Str.ofString "holds", Str.ofString "szp", Str.ofString "add_flags", Str.ofString "sub_flags", Str.ofString "logic_flags", Str.ofString "inc_flags", Str.ofString "dec_flags", Str.ofString "neg_flags", Str.ofString "condition_of", Str.ofString "NAMES_8", Str.ofString "NAMES_16", Str.ofString "NAMES_32", Str.ofString "NAMES_64", Str.ofString "HIGH_NAMES", Str.ofString "Register", Str.ofString "early_names", Str.ofString "late_ending", Str.ofString "gpr", Str.ofString "high", Str.ofString "AH_NUMBER", Str.ofString "combined", Str.ofString "two_deed", Str.ofString "one_deed", Str.ofString "xadd_deed", Str.ofString "cmpxchg_deed", Str.ofString "flag_deed", Str.ofString "set_deed", Str.ofString "cmov_deed", Str.ofString "arith_deed", Str.ofString "ALIASES", Str.ofString "OTHER_NAMES", Str.ofString "pairs_of", Str.ofString "canonical", Str.ofString "STACK", Str.ofString "Memory", Str.ofString "joined", Str.ofString "State", Str.ofString "Operand", Str.ofString "Reg", Str.ofString "Rel", Str.ofString "Mem", Str.ofString "Instruction", Str.ofString "widening_deed", Str.ofString "RCX", Str.ofString "RSP", Str.ofString "target_of", Str.ofString "count_down", Str.ofString "is_taken", Str.ofString "jump_deed", Str.ofString "_law_names", Str.ofString "_law_widenings", Str.ofString "_law_cell", Str.ofString "_law_near", Str.ofString "_law_truth", Str.ofString "_law_set", Str.ofString "_law_put_octet", Str.ofString "_law_octet", Str.ofString "_law_widened"]
theorem open1 : opening pw = plainProg pw.main.scope.names := by kernel_rfl
theorem open2 : ∀ s, fenceModules? pw s = some s := by intro s; kernel_rfl
theorem size1 : ∀ w : World, ((boot_heap w.params).isNs mainGlobals && (#[] : Array GenState).size == 0, (boot_heap w.params).objs.size, (boot_heap w.params).nsMap mainGlobals "__annotations__") = (true, m0, ann) := by intro w; kernel_rfl
theorem hF_tree (P : Params) : hF P = absHeap (t20 P) 969 {} := by kernel_rfl
theorem abs_all (t : BT) (n : Nat) (l : Life) : (absHeap t n l).get? = fun a => if a < n then alive ((t.get a).getD default) else none := by
  funext a
  unfold Heap.get?
  rw [absHeap_at]
  by_cases h : a < n
  · rw [if_pos h, if_pos h]
    generalize (t.get a).getD default = o
    obtain ⟨c, d, dt, sl⟩ := o
    cases dt <;> rfl
  · rw [if_neg h, if_neg h]
theorem k_tree (P : Params) : (kAs.map fun a => if a < 969 then alive (((t20 P).get a).getD default) else none) = (K P).map fun p => some p.2 := by kernel_rfl
noncomputable abbrev hk : Hook := kHook K kAs (fun _ => by kernel_rfl)
noncomputable abbrev rr : OpenRow := PySem.Challenge.rw_nn0070_01.row
theorem look2 (w : World) (os : OsState) : hk.obs ⟨hF w.params, #[], {}, 1535, os⟩ = hk.val w := by
  show kAs.map (hF w.params).get? = (K w.params).map fun p => some p.2
  rw [hF_tree, abs_all]
  exact k_tree w.params
noncomputable abbrev xt : Shared → Bool := fun s => xlAt q [] s && recOk (RowW.records rr.toRowW) s
theorem sn1 (w : World) (os : OsState) : seen ((recsOf q).map (·.name)) (ownsOf q) [] { (⟨hF w.params, #[], {}, 1535, os⟩ : Shared) with gens := #[] } = expectedOf q := by kernel_rfl
theorem sn2 (w : World) : (hF w.params).bltView = bltViewBooted := by kernel_rfl
theorem sn4 (w : World) (os : OsState) : tabsOk q ⟨hF w.params, #[], {}, 1535, os⟩ = true := by kernel_rfl
theorem sn5 (w : World) (os : OsState) : pinSeenD q (drecsOf q) ⟨hF w.params, #[], {}, 1535, os⟩ = pinGoodD (drecsOf q) := by kernel_rfl
theorem sn6 (w : World) (os : OsState) : plainSeenE q (looseW q loose) ⟨hF w.params, #[], {}, 1535, os⟩ = plainGoodE q (looseW q loose) := by kernel_rfl
theorem sn7 (w : World) (os : OsState) : plainSeenD q loose ⟨hF w.params, #[], {}, 1535, os⟩ = plainGoodD q loose := by kernel_rfl
theorem sn8 (w : World) (os : OsState) : wideSeen q ⟨hF w.params, #[], {}, 1535, os⟩ = wideGood q := by kernel_rfl
theorem sn9 (w : World) (os : OsState) : clsSeenW q loose ⟨hF w.params, #[], {}, 1535, os⟩ = clsGoodW q loose := by kernel_rfl
theorem sn3 (w : World) (os : OsState) : ((hF w.params).keysOk (looseW q loose) ((recsOf q).map (·.name)) ((litsOf q).map (·.1)) ((clssOf q (looseW q loose)).map (·.name)) && (hF w.params).accountedOkI (importedModules pw.main.body) && (hF w.params).isNs mainGlobals && (hF w.params).isNs builtinsNs && tablesOk q (hF w.params) && xt ⟨hF w.params, #[], {}, 1535, os⟩ && (if true then (#[] : Array GenState).size == 0 else !leftWithCleanup #[])) = true := by kernel_rfl
theorem look1 (w : World) (os : OsState) : (staticsOk (importedModules pw.main.body) (boot_heap w.params) (hF w.params) && namesBound pw (hF w.params) && gensDone ⟨hF w.params, #[], {}, 1535, os⟩ && laidKept (boot_heap w.params) (hF w.params)) = true := by kernel_rfl
theorem left : LeftO pw q loose xt hk.obs hk.val 12948 :=
  LeftO.of_pieces (H₀ := boot_heap) (H₁ := hF) (gs₀ := #[]) (gs₁ := #[]) (d₀ := boot_drawn) (d₁ := {}) (k₀ := boot_toks) (k₁ := 1535) (m₀ := m0) (ann := ann)
    (boot_open open1 (by decide) open2) size1 run (by decide)
    (fun w => funext fun os => looks_pair (look1 w os) (looks_pair
      (looks_pair (sn1 w os) (looks_pair (sn2 w) (looks_pair (sn3 w os) (looks_pair (sn4 w os) (looks_pair (sn5 w os) (looks_pair (sn6 w os) (looks_pair (sn7 w os) (looks_pair (sn8 w os) (sn9 w os)))))))))
      (look2 w os)))
theorem said : PySem.Challenge.rw_nn0070_01.wellSaid = true := by rewrite [Fast.te9446332074065402090]; kernel_rfl
theorem wit : PySem.Challenge.rw_nn0070_01.row.toRowW.promised := by w_witness2
theorem wsaid : rr.wellSaid = true := row_said said
theorem opens : (chainsOk q && opensWell rr.prog && (frees rr.toRowW && rr.within.isEmpty)) = true := by kernel_rfl
theorem bares : rr.prog.bare := ⟨rfl, rfl, rfl, rfl, rfl, by decide +kernel⟩
end Mine
section CompDict
open PyProof.V PySem.Spec PyProof.Rows.LCg PyProof.Rows.LCt
namespace Mine
section
variable {prog : Program} {w : World} {A : Around} {E : Value → Shared → Prop} {s : Shared} {h₀ : Heap} {L : Addr} {m : Str → Option Value} {env : Env}
def SrcDT (prog : Program) (w : World) (A : Around) (h₀ : Heap) (L : Addr) (m : Str → Option Value) (env : Env) (ct elt : PySem.Expr) (x : Str) (scope : Scope) (cl : List (Str × Addr)) (Q : Value → Shared → Prop) (xv : Value) (s₁ : Shared) : Prop :=
  ∃ d od kvs news, xv = .ref d ∧ A.handled = none ∧ (d == sysModules) = false ∧ Fr h₀ L s₁.heap m ∧ News h₀ L s₁.heap news ∧ (d, od) ∈ news ∧ od.IsDictOf (PySem.intKind prog w) kvs ∧ kvs.length ≤ sizeLine ∧
    ∀ s₂ : Shared, (∃ h, s₂ = { s₁ with heap := h }) → CompRestT prog w A h₀ L m env ct elt x scope cl s₂ (fun nw => (d, od) ∈ nw) (fun i v => ∃ t, v = .int (kvs.getD i (0, .none)).1 t) (FinE h₀ L m s₂ Q) kvs.length 0 [] news
theorem SrcDT.mk {ct elt : PySem.Expr} {x : Str} {scope : Scope} {cl : List (Str × Addr)} {Q : Value → Shared → Prop} {d : Addr} {od : Obj} {kvs : List (Int × Value)} {news : List (Addr × Obj)} {s₁ : Shared}
    (hh : A.handled = none) (hlo : (d == sysModules) = false) (F : Fr h₀ L s₁.heap m) (N : News h₀ L s₁.heap news) (hm : (d, od) ∈ news) (hd : od.IsDictOf (PySem.intKind prog w) kvs) (hsz : kvs.length ≤ sizeLine)
    (h : ∀ g, CompRestT prog w A h₀ L m env ct elt x scope cl { s₁ with heap := g } (fun nw => (d, od) ∈ nw) (fun i v => ∃ t, v = .int (kvs.getD i (0, .none)).1 t) (FinE h₀ L m { s₁ with heap := g } Q) kvs.length 0 [] news) :
    SrcDT prog w A h₀ L m env ct elt x scope cl Q (.ref d) s₁ := ⟨d, od, kvs, news, rfl, hh, hlo, F, N, hm, hd, hsz, fun _ ⟨g, e⟩ => e ▸ h g⟩
theorem keyWalks (hh : A.handled = none) (I d : Addr) (hne : d ≠ I) (kvs : List (Int × Value)) (ep : Nat) :
    Walks prog w A I [I, d] [I] kvs.length (fun i v => ∃ t, v = .int (kvs.getD i (0, .none)).1 t) (fun i h => h.IsKeyIter I d i kvs.length ep ∧ h.DictAt (PySem.intKind prog w) d kvs ep) :=
  (Walks.dictKeys (knd := PySem.intKind prog w) hh I d hne kvs ep).weaken fun i v hP => by
    obtain ⟨k, x, hk, hv⟩ := hP
    have e : kvs.getD i (0, .none) = (k, x) := by rw [List.getD_eq_getElem?_getD, hk]; rfl
    rw [e]
    cases v with
    | int k' t =>
      have e' : k' = k := by simpa [PySem.intKind, Value.isInt] using hv
      exact ⟨t, by rw [e']⟩
    | _ => simp [PySem.intKind, Value.isInt] at hv
theorem ListComp_D {ct elt iter : PySem.Expr} {x : Str} {px : Pos} {scope : Scope} {cl : List (Str × Addr)} {pos : Pos} {Q : Value → Shared → Prop}
    (_F₀ : Fr h₀ L s.heap m) (hclos : closureFor scope env = pure cl) (hcell : ∀ y ∈ scope.names, y.2 ≠ .cell) (hkind : scope.kind = .function)
    (hnames : ∀ y ∈ scope.names, y.2 = .local → scope.names.lookup y.1 = some .local) (hx : scope.names.lookup x = some .local)
    (h : wpAny (model prog w) A (eval iter env) (SrcDT prog w A h₀ L m env ct elt x scope cl Q) E s)
    (hs : ∀ x, foldedSetIterable iter env x = pure x := by intro _; rfl) :
    wpAny (model prog w) A (eval (.ListComp elt [⟨.Name x px, iter, [ct], 0⟩] scope pos) env) Q E s := by
  rw [eval_ListComp]
  refine wpAny_comprehension_free (use := none) rfl hs hclos hkind hnames (wpAny_mono h (fun xv s₁ h₁ => ?_) fun _ _ e => e)
  obtain ⟨d, od, kvs, news, rfl, hh, hlo, F, N, hm, hd, hsz, R⟩ := h₁
  obtain ⟨es, ep, hx1, hx2, hx3, hx4, hx5⟩ := hd
  have hdN := N _ hm
  have at_ : ∀ (h' : Heap), h'.get? d = some od → h'.DictAt (PySem.intKind prog w) d kvs ep := fun h' e => ⟨od, es, e, hx1, hx2, hx3, hx4, hx5⟩
  have hlt : d < s₁.heap.objs.size := Heap.lt_size hdN.1
  refine wpAny_pyIter_dict hlo (at_ _ hdN.1) ?_
  have up : ∀ b o, s₁.heap.get? b = some o → (s₁.heap.push { cls := .type "dict_keyiterator", data := .fields #[.ref d, .int 0 0, .int kvs.length 0, .int ep 0] }).get? b = some o := fun b o e => Heap.get?_push_of_some _ e
  refine block_T (keyWalks hh s₁.heap.objs.size d (Nat.ne_of_lt hlt) kvs ep) hsz (fun i h st => by obtain ⟨o, e, _⟩ := st.1; exact ⟨o, e⟩) (S := fun nw => (d, od) ∈ nw) (fun i h h' o nw st e1 e2 _ N' hS => ?_) hcell hkind hx ⟨⟨_, Heap.get?_push_size _ rfl, rfl, rfl⟩, at_ _ (up _ _ hdN.1)⟩ (fun b hb => ?_)
    (F.keeps up) (N.grown up) (Nat.ne_of_lt F.ns.lt) (next_is_new F) (fun p hp => Nat.ne_of_lt (Heap.lt_size (N p hp).1)) hm (R _ ⟨_, rfl⟩) ?_
  · refine ⟨?_, at_ _ (N' _ hS).1⟩
    obtain ⟨o', ho', hc⟩ := st.1
    rw [e1] at ho'
    obtain rfl := Option.some.inj ho'
    exact ⟨_, e2, hc⟩
  · show b < (s₁.heap.push _).objs.size
    rw [Heap.size_push]
    rcases List.mem_cons.mp hb with rfl | hb
    · exact Nat.lt_succ_self _
    · rw [List.mem_singleton.mp hb]; exact Nat.lt_succ_of_lt hlt
  · intro D C h tk m' ys news' F' N' o1 hn hC₀ hD₀ hCL hDL hCD offC fin
    refine ⟨m', hn, fun h'' hs'' => fin D h'' tk (F'.change hs'' hCL hC₀) (fun p hp => ?_) o1⟩
    refine ⟨hs''.extBut _ _ ?_ (N' p hp).1, (N' p hp).2⟩
    rcases List.mem_cons.mp hp with rfl | hp
    · exact Ne.symm hCD
    · exact offC p hp
end
end Mine
end CompDict
section EnumBytes
open PyProof.V PySem.Spec
open Sem (wp)
open AutoSeq1 (wpAny_loadPart')
namespace Mine
section
variable {prog : Program} {w : World} {A : Around} {E : Value → Shared → Prop} {s : Shared} {b : Array UInt8} {t : Tok}
theorem nextOf_bytes_item {it : Addr} {i : Nat} {c : UInt8} {Q : Value → Shared → Prop} (hit : KBw.IsBytesIter s.heap it b t i) (hx : b[i]? = some c)
    (hQ : ∀ h', KBw.IsBytesIter h' it b t (i + 1) → Heap.SameBut it s.heap h' → Q (.int (c.toNat : Int) s.toks) { s with heap := h', toks := s.toks + 1 }) : wpAny (model prog w) A (Builtin.SmallTypes.nextOf (.ref it)) Q E s := by
  obtain ⟨o, ho, hc, hd⟩ := id hit
  unfold Builtin.SmallTypes.nextOf
  refine wpAny_bind (wpAny_callSpecial?_slot (name := Str.ofString "__next__") (KBw.iter_typeIs hit) KBw.slot_next
    (wpAny_call_entry KBw.slot_next (KBw.iter_typeIs hit) KBw.entry_next ?_ (KBw.args_next _)))
  show wpAny _ _ (field (.ref it) 0 >>= _) _ _ s
  refine wpAny_bind (wpAny_field ho hd (x := .bytes b t) rfl ?_)
  show wpAny _ _ (if (Value.bytes b t == Value.none) = true then _ else _) _ _ s
  rw [if_neg (show ¬ ((Value.bytes b t == Value.none) = true) from Bool.false_ne_true)]
  show wpAny _ _ (field (.ref it) 1 >>= _) _ _ s
  refine wpAny_bind (wpAny_field ho hd (x := .int i 0) rfl ?_)
  refine wpAny_bind (wpAny_of_eq (a := b) rfl ?_)
  simp only [Int.toNat_natCast, hx]
  refine wpAny_bind (wpAny_setField ho hd (by simp) (wpAny_bind (wpAny_mkInt (wpAny_pure ⟨_, rfl, wpAny_pure (hQ _ ?_ (Heap.SameBut.update ..))⟩))))
  exact ⟨_, Heap.get?_update_self _ ho (Obj.isFreed_of_fields (Obj.data_mapFields hd _)), (Obj.cls_mapFields ..).trans hc, by
    rw [Obj.data_mapFields hd]; simp [rawInt]⟩
theorem nextOf_bytes_end {it : Addr} {i : Nat} {Q : Value → Shared → Prop} (hh : A.handled = none) (hit : KBw.IsBytesIter s.heap it b t i) (hx : b[i]? = none)
    (hE : ∀ h' e, Heap.ExtBut it s.heap h' → (∃ o, h'.get? e = some o ∧ o.cls = .type "StopIteration") → E (.ref e) { s with heap := h' }) : wpAny (model prog w) A (Builtin.SmallTypes.nextOf (.ref it)) Q E s := by
  obtain ⟨o, ho, hc, hd⟩ := id hit
  unfold Builtin.SmallTypes.nextOf
  refine wpAny_bind (wpAny_callSpecial?_slot (name := Str.ofString "__next__") (KBw.iter_typeIs hit) KBw.slot_next
    (wpAny_call_entry KBw.slot_next (KBw.iter_typeIs hit) KBw.entry_next ?_ (KBw.args_next _)))
  show wpAny _ _ (field (.ref it) 0 >>= _) _ _ s
  refine wpAny_bind (wpAny_field ho hd (x := .bytes b t) rfl ?_)
  show wpAny _ _ (if (Value.bytes b t == Value.none) = true then _ else _) _ _ s
  rw [if_neg (show ¬ ((Value.bytes b t == Value.none) = true) from Bool.false_ne_true)]
  show wpAny _ _ (field (.ref it) 1 >>= _) _ _ s
  refine wpAny_bind (wpAny_field ho hd (x := .int i 0) rfl ?_)
  refine wpAny_bind (wpAny_of_eq (a := b) rfl ?_)
  simp only [Int.toNat_natCast, hx]
  refine wpAny_bind (wpAny_rule (wpAny_bind (wpAny_setField ho hd (by simp) ?_)))
  show wpAny _ _ (newExc (.type "StopIteration") [] >>= _) _ _ _
  refine wpAny_bind ?_
  simp only [newExc, newTuple]
  refine wpAny_bind (wpAny_newObj_type ?_ (by size_fits))
  refine wpAny_bind (m := firstArgMember _ _) (wpAny_of_eq (a := Value.none) (by first | rfl | (simp only [firstArgMember]; rfl)) ?_)
  refine wpAny_newObj_type ?_ (by size_fits)
  simp only [raiseNew]
  refine wpAny_bind (wpAny_handled ?_)
  first | rw [show A.in1.handled = none from hh] | rw [hh]
  refine wpAny_bind (wpAny_pure (wpAny_throw ?_))
  exact hE _ _ (((Heap.SameBut.update ..).extBut.push _).push _) ⟨_, Heap.get?_push_size _ rfl, rfl⟩
end
theorem drawsB {prog : Program} {w : World} {A : Around} (hh : A.handled = none) (I : Addr) (b : Array UInt8) (t : Tok) :
    Draws prog w A I [I] b.size (fun i v => ∃ c u, b[i]? = some c ∧ v = .int (c.toNat : Int) u) (fun i h => KBw.IsBytesIter h I b t i) where
  live := fun _ _ ⟨o, ho, _⟩ => ⟨o, ho⟩
  frame := fun _ _ _ st hk => let ⟨o, ho, r⟩ := st; ⟨o, hk I (by simp) o ho, r⟩
  item := fun i s Q E hi st hQ => by
    refine nextOf_bytes_item st (c := b[i]) (by simp [hi]) fun h' hit' hs' => ?_
    exact hQ _ h' (s.toks + 1) ⟨_, _, by simp [hi], rfl⟩ hit' hs'
  done := fun s Q E st hE => nextOf_bytes_end hh st (by simp) hE
set_option maxHeartbeats 1000000 in
theorem meets_enum_bytes (x : Array UInt8) (t : Tok) :
    Meets (Builtin.«enumerate.__new__» ⟨[.type "enumerate", .bytes x t], []⟩) (fun _ R s =>
      R (.ok (.ret (.ref (s.heap.push { cls := .type "bytes_iterator", data := .fields #[.bytes x t, .int 0 0] }).objs.size)))
        { s with heap := (s.heap.push { cls := .type "bytes_iterator", data := .fields #[.bytes x t, .int 0 0] }).push { cls := .type "enumerate", data := .fields #[.none, .bool false, .ref s.heap.objs.size, rawInt 0, .none, .none] } }) :=
  .of_wp fun prog w A R s h => by
    obtain ⟨hp, g, d, tk, os⟩ := s
    have hsub := sub_enumerate
    wp_walk
    refine wpAny_stack_any fun st => wpAny_pure ?_
    split
    · rename_i c _ _ _ _ _
      cases (c == Value.type "enumerate")
      · wp_walk using KBw.pyIter_bytes
        exact ⟨_, rfl, h⟩
      · wp_walk using KBw.pyIter_bytes
        exact ⟨_, rfl, h⟩
    · wp_walk using KBw.pyIter_bytes
      exact ⟨_, rfl, h⟩
theorem call_enum_bytes {prog : Program} {w : World} {A : Around} {E : Value → Shared → Prop} {s : Shared} {x : Array UInt8} {t : Tok} {Q : Value → Shared → Prop}
    (h : ∀ h', IsEnum h' (s.heap.objs.size + 1) s.heap.objs.size 0 .none → KBw.IsBytesIter h' s.heap.objs.size x t 0 → h'.objs.size = s.heap.objs.size + 2 →
      (∀ b o, s.heap.get? b = some o → h'.get? b = some o) → Q (.ref (s.heap.objs.size + 1)) { s with heap := h' }) :
    wpAny (model prog w) A (call (.type "enumerate") [.bytes x t]) Q E s := by
  refine callType_new F.called_enumerate (by decide) (F.typeCall_enumerate_1 _) (F.newCall_enumerate_1 _) (fun obj => F.args_object_init_2 obj _) F.entry_enumerate_new
    (meets_enum_bytes x t) ?_
  have hz : (s.heap.push { cls := .type "bytes_iterator", data := .fields #[.bytes x t, .int 0 0] }).objs.size = s.heap.objs.size + 1 := Heap.size_push ..
  show _ ∧ _
  rw [hz]
  have he : IsEnum ((s.heap.push { cls := .type "bytes_iterator", data := .fields #[.bytes x t, .int 0 0] }).push
      { cls := .type "enumerate", data := .fields #[.none, .bool false, .ref s.heap.objs.size, rawInt 0, .none, .none] }) (s.heap.objs.size + 1) s.heap.objs.size 0 .none := by
    have := Heap.get?_push_size (s.heap.push { cls := .type "bytes_iterator", data := .fields #[.bytes x t, .int 0 0] })
      (o := { cls := .type "enumerate", data := .fields #[.none, .bool false, .ref s.heap.objs.size, rawInt 0, .none, .none] }) rfl
    rw [hz] at this; exact this
  refine ⟨⟨_, he, rfl⟩, h _ he ⟨_, Heap.get?_push_of_some _ (Heap.get?_push_size _ rfl), rfl, rfl⟩ (by rw [Heap.size_push, hz]) fun b o x => Heap.get?_push_of_some _ (Heap.get?_push_of_some _ x)⟩
theorem enum_bytes_turns {prog : Program} {w : World} {A : Around} {E : Value → Shared → Prop} {s : Shared} {env : Env} {h₀ : Heap} {body : List Stmt} {Q : Flow → Shared → Prop} {elts : List PySem.Expr} {k : Nat} {pos : Pos} {b : Array UInt8} {tb : Tok} {xs : List Itm} {m₀ : Str → Option Value} {news : List (Addr × Obj)}
    (hh : A.handled = none) (F : Fr h₀ env.locals s.heap m₀) (N : News h₀ env.locals s.heap news) (hn : b.size = xs.length) (hx : ∀ (i : Nat) (c : UInt8), b[i]? = some c → xs[i]? = some (.pairF (fun t => .int (i : Int) t) (.int (c.toNat : Int))))
    (rest₀ : ∀ I : Addr, (∀ p ∈ news, p.1 < I) → ItemsRest prog w A E h₀ env (.Tuple elts k pos) body Q s [(I + 1, "enumerate"), (I, "bytes_iterator")] [] xs m₀ news) :
    wpAny (model prog w) A (call (.type "enumerate") [.bytes b tb]) (fun xv s₁ => wpAny (model prog w) A (pyIter xv) (fun it s₂ => TurnsAt prog w A h₀ env (.Tuple elts k pos) body Q E it s₂) E s₁) E s := by
  have hLs : env.locals < s.heap.objs.size := F.ns.lt
  refine call_enum_bytes fun h' hE hI hsz hk => ?_
  refine wpAny_pyIter_enum hE ?_
  refine ktu_core (tk0 := s.toks) (keep := []) (KTurns.ofWalksU (WalksT.enumerateD (drawsB (prog := prog) (w := w) (A := A.in1) hh s.heap.objs.size b tb) (s.heap.objs.size + 1) (Nat.succ_ne_self _) (by simp) (by simp)).toU) hn ?_ ?_ ?_ ?_ ?_ ?_ ?_ ?_ (F.keeps hk) (N.grown hk) trivial (rest₀ _ fun p hp => Heap.lt_size (N p hp).1)
  · rintro i v h ⟨T, vals, rfl, ⟨t, x, ⟨c, u, hc, rfl⟩, rfl⟩, hT⟩
    exact ⟨_, hx i c hc, T, t, _, rfl, fun _ => Reads.int _ _, hT⟩
  · rintro i h ⟨⟨old, he⟩, ⟨oi, hoi, hic, _⟩⟩
    have he' : ∃ oe : Obj, h.get? (s.heap.objs.size + 1) = some oe ∧ oe.cls = .type "enumerate" := ⟨_, he, rfl⟩
    obtain ⟨oe, h1, h2⟩ := he'
    refine ⟨[(s.heap.objs.size + 1, oe), (s.heap.objs.size, oi)], ⟨⟨rfl, h2⟩, ⟨rfl, hic⟩, trivial⟩, fun p hp => ?_⟩
    rcases List.mem_cons.mp hp with rfl | hp
    · exact h1
    · rw [List.mem_singleton.mp hp]; exact hoi
  · intro b' hb
    have hb' : b' = s.heap.objs.size + 1 ∨ b' = s.heap.objs.size := by simpa using hb
    rcases hb' with rfl | rfl
    · exact ⟨by simp, ktu_new F (Nat.le_add_right _ _)⟩
    · exact ⟨by simp, ktu_new F (Nat.le_refl _)⟩
  · intro b' hb
    simpa using hb
  · intro b' hb
    have hb' : b' = s.heap.objs.size + 1 ∨ b' = s.heap.objs.size := by simpa using hb
    rcases hb' with rfl | rfl
    · exact .inl (by simp)
    · exact .inl (by simp)
  · intro hI'
    have hb' : env.locals = s.heap.objs.size + 1 ∨ env.locals = s.heap.objs.size := by simpa using hI'
    rcases hb' with e | e
    · exact ktu_ne 1 hLs e
    · exact Nat.ne_of_lt hLs e
  · intro p hp hI'
    have hb' : p.1 = s.heap.objs.size + 1 ∨ p.1 = s.heap.objs.size := by simpa using hI'
    have hlp := Heap.lt_size (N p hp).1
    rcases hb' with e | e
    · exact ktu_ne 1 hlp e
    · exact Nat.ne_of_lt hlp e
  · exact ⟨⟨.none, hE⟩, hI⟩
end Mine
end EnumBytes
namespace Mine
section
theorem two_pos (n : Nat) : (0 : Int) < 2 ^ n := kbt_pos n
end
end Mine
namespace Mine
section
theorem and1 (x : Int) : Builtin.bitAnd x 1 = x % 2 := by
  have h := kbt_mask x 1
  simpa using h
theorem fdiv2 (x : Int) (k : Nat) : x.fdiv (2 ^ k) = x / 2 ^ k := Int.fdiv_eq_ediv_of_nonneg _ (Int.le_of_lt (kbt_pos k))
def sg (x : Int) (n : Nat) : Int := if x % 2 ^ n < 2 ^ (n - 1) then x % 2 ^ n else x % 2 ^ n - 2 ^ n
theorem sg_top {x : Int} {n : Int} (h0 : 1 ≤ n) (h : (x % 2 ^ n.toNat).fdiv (2 ^ (n - 1).toNat) = 1) : ¬ x % 2 ^ n.toNat < 2 ^ (n.toNat - 1) := by
  rw [fdiv2, show (n - 1).toNat = n.toNat - 1 by omega] at h
  intro hlt
  rw [Int.ediv_eq_zero_of_lt (Int.emod_nonneg _ (by have := two_pos n.toNat; omega)) hlt] at h
  exact absurd h (by decide)
theorem sg_low {x : Int} {n : Int} (h0 : 1 ≤ n) (h : ¬ (x % 2 ^ n.toNat).fdiv (2 ^ (n - 1).toNat) = 1) : x % 2 ^ n.toNat < 2 ^ (n.toNat - 1) := by
  rw [fdiv2, show (n - 1).toNat = n.toNat - 1 by omega] at h
  have hp := two_pos (n.toNat - 1)
  have h2 : (2 : Int) ^ n.toNat = 2 ^ (n.toNat - 1) * 2 := by rw [← Int.pow_succ]; congr 1; omega
  have hn := Int.emod_nonneg x (show (2 : Int) ^ n.toNat ≠ 0 by have := two_pos n.toNat; omega)
  have hl := Int.emod_lt_of_pos x (two_pos n.toNat)
  generalize x % 2 ^ n.toNat = y at *
  generalize (2 : Int) ^ (n.toNat - 1) = z at *
  rcases Int.lt_or_le y z with q | q
  · exact q
  · exfalso
    apply h
    have e := Int.mul_ediv_add_emod y z
    have e1 := Int.emod_nonneg y (show z ≠ 0 by omega)
    have e2 := Int.emod_lt_of_pos y hp
    have h3 : 0 < y / z := by
      rcases Int.lt_or_le 0 (y / z) with r | r
      · exact r
      · exfalso
        have : z * (y / z) ≤ 0 := Int.mul_nonpos_of_nonneg_of_nonpos (by omega) r
        omega
    have h4 : y / z < 2 := Int.ediv_lt_of_lt_mul hp (by omega)
    omega
def popc (r : Int) : Int := r % 2 + r / 2 % 2 + r / 4 % 2 + r / 8 % 2 + r / 16 % 2 + r / 32 % 2 + r / 64 % 2 + r / 128 % 2
theorem pop_step_dec : ∀ n : Fin 255, Builtin.bitAnd ((n.val + 1 : Nat) : Int) ((n.val : Nat) : Int) ≤ (n.val : Int) ∧ 0 ≤ Builtin.bitAnd ((n.val + 1 : Nat) : Int) ((n.val : Nat) : Int) ∧ popc (Builtin.bitAnd ((n.val + 1 : Nat) : Int) ((n.val : Nat) : Int)) + 1 = popc ((n.val + 1 : Nat) : Int) := by decide +kernel
theorem pop_step {r : Int} (h0 : 0 < r) (h1 : r < 256) : Builtin.bitAnd r (r - 1) < r ∧ 0 ≤ Builtin.bitAnd r (r - 1) ∧ popc (Builtin.bitAnd r (r - 1)) + 1 = popc r := by
  have h := pop_step_dec ⟨(r - 1).toNat, by omega⟩
  have e1 : (((r - 1).toNat + 1 : Nat) : Int) = r := by omega
  have e2 : (((r - 1).toNat : Nat) : Int) = r - 1 := by omega
  dsimp only at h
  rw [e1, e2] at h
  exact ⟨by omega, h.2.1, h.2.2⟩
end
end Mine
namespace Mine
section
def hnT (c p z s f : Int) (j : Int) : Bool := if j = 0 then f == 1 else if j = 1 then c == 1 else if j = 2 then z == 1 else if j = 3 then (c == 1 || z == 1) else if j = 4 then s == 1 else if j = 5 then p == 1 else if j = 6 then s != f else (z == 1 || s != f)
def hn (c p z s f : Int) (k : Int) : Bool := if k % 2 = 0 then hnT c p z s f (k / 2) else !hnT c p z s f (k / 2)
end
end Mine
namespace Mine
section
def cnd : Nat → Str
  | 0 => ⟨#[111]⟩ | 1 => ⟨#[110, 111]⟩ | 2 => ⟨#[98]⟩ | 3 => ⟨#[97, 101]⟩ | 4 => ⟨#[101]⟩ | 5 => ⟨#[110, 101]⟩ | 6 => ⟨#[98, 101]⟩ | 7 => ⟨#[97]⟩
  | 8 => ⟨#[115]⟩ | 9 => ⟨#[110, 115]⟩ | 10 => ⟨#[112]⟩ | 11 => ⟨#[110, 112]⟩ | 12 => ⟨#[108]⟩ | 13 => ⟨#[103, 101]⟩ | 14 => ⟨#[108, 101]⟩ | _ => ⟨#[103]⟩
abbrev cndL : List Str := [⟨#[111]⟩, ⟨#[110, 111]⟩, ⟨#[98]⟩, ⟨#[97, 101]⟩, ⟨#[101]⟩, ⟨#[110, 101]⟩, ⟨#[98, 101]⟩, ⟨#[97]⟩, ⟨#[115]⟩, ⟨#[110, 115]⟩, ⟨#[112]⟩, ⟨#[110, 112]⟩, ⟨#[108]⟩, ⟨#[103, 101]⟩, ⟨#[108, 101]⟩, ⟨#[103]⟩]
theorem cnd_in_dec : ∀ k : Fin 16, (cndL.any fun x => x == cnd k.val) = true := by decide +kernel
theorem cnd_in {k : Nat} (hk : k < 16) : (cndL.any fun x => x == cnd k) = true := cnd_in_dec ⟨k, hk⟩
theorem cnd_inj_dec : ∀ i j : Fin 16, (cnd i.val == cnd j.val) = decide (i = j) := by decide +kernel
theorem cnd_eq {i j : Nat} (hi : i < 16) (hj : j < 16) : (cnd i == cnd j) = decide (i = j) := by
  have h := cnd_inj_dec ⟨i, hi⟩ ⟨j, hj⟩
  simpa using h
def isS (x : Str) : Value → Bool
  | .str y _ => y == x
  | _ => false
end
end Mine
namespace Mine
section
def stm : Nat → Str
  | 0 => ⟨#[106]⟩
  | 1 => ⟨#[115, 101, 116]⟩
  | _ => ⟨#[99, 109, 111, 118]⟩
def nm (w k : Nat) : Str := stm w ++ cnd k
theorem sw_1_j_dec : ∀ k : Fin 16, Txt.startswith (nm 1 k.val) (Str.ofString "j") = false := by decide +kernel
theorem sw_1_s_dec : ∀ k : Fin 16, Txt.startswith (nm 1 k.val) (Str.ofString "set") = true := by decide +kernel
theorem sw_2_j_dec : ∀ k : Fin 16, Txt.startswith (nm 2 k.val) (Str.ofString "j") = false := by decide +kernel
theorem sw_2_s_dec : ∀ k : Fin 16, Txt.startswith (nm 2 k.val) (Str.ofString "set") = false := by decide +kernel
theorem sw_2_c_dec : ∀ k : Fin 16, Txt.startswith (nm 2 k.val) (Str.ofString "cmov") = true := by decide +kernel
theorem sw_1_j {k : Nat} (h : k < 16) : Txt.startswith (nm 1 k) (Str.ofString "j") = false := sw_1_j_dec ⟨k, h⟩
theorem sw_1_s {k : Nat} (h : k < 16) : Txt.startswith (nm 1 k) (Str.ofString "set") = true := sw_1_s_dec ⟨k, h⟩
theorem sw_2_j {k : Nat} (h : k < 16) : Txt.startswith (nm 2 k) (Str.ofString "j") = false := sw_2_j_dec ⟨k, h⟩
theorem sw_2_s {k : Nat} (h : k < 16) : Txt.startswith (nm 2 k) (Str.ofString "set") = false := sw_2_s_dec ⟨k, h⟩
theorem sw_2_c {k : Nat} (h : k < 16) : Txt.startswith (nm 2 k) (Str.ofString "cmov") = true := sw_2_c_dec ⟨k, h⟩
theorem sl_1_dec : ∀ k : Fin 16, (Txt.slice (nm 1 k.val) (some ((3 : Nat) : Int)) none == cnd k.val) = true := by decide +kernel
theorem sl_2_dec : ∀ k : Fin 16, (Txt.slice (nm 2 k.val) (some ((4 : Nat) : Int)) none == cnd k.val) = true := by decide +kernel
theorem sl_1 {k : Nat} (h : k < 16) : Txt.slice (nm 1 k) (some ((3 : Nat) : Int)) none = cnd k := beq_iff_eq.mp (sl_1_dec ⟨k, h⟩)
theorem sl_2 {k : Nat} (h : k < 16) : Txt.slice (nm 2 k) (some ((4 : Nat) : Int)) none = cnd k := beq_iff_eq.mp (sl_2_dec ⟨k, h⟩)
theorem nm_len_dec : ∀ w : Fin 3, ∀ k : Fin 16, Nat.ble (nm w.val k.val).length 10 = true := by decide +kernel
theorem nm_len {w k : Nat} (hw : w < 3) (h : k < 16) : (nm w k).length ≤ sizeLine := Nat.le_trans (Nat.le_of_ble_eq_true (nm_len_dec ⟨w, hw⟩ ⟨k, h⟩)) (Nat.le_of_ble_eq_true rfl)
end
end Mine
namespace Mine
section
theorem eq_lens {prog : Program} {w : World} {A : Around} {E : Value → Shared → Prop} {s : Shared} {l b : Addr} {items items2 : Array Value} {Q : Value → Shared → Prop} (hl : s.heap.IsList l items) (hb : s.heap.IsList b items2) (hsz : (items.size != items2.size) = true) (hu : A.units < cLine)
    (h : Q (.bool false) s) : wpAny (model prog w) A (compareOp .Eq (.ref l) (.ref b)) Q E s :=
  cmp_ofEq (PySem.SeqAt.RcAt.lists_lengths hl hb hsz hu _ _ _ _ h)
end
end Mine
namespace Mine
section
theorem code_defS {prog : Program} {w : World} {A A₀ : Around} {s : Shared} {K : Frag} {h₀ base : Heap} {L : Addr} {m mg mb : Str → Option Value} {p : Program} {loose : List Str} {mean : ExcName → Option Value} {env : Env} {outer : List Env} {R : Result → Shared → Prop} {news : List (Addr × Obj)} {name qual : Str} {params : Arguments} {body : List Stmt} {scope : Scope} {dV kV doc pm cdv ct oc : Value} {an od : Option Addr} {osl : Array (Option Value)} {f : Addr} {args : Args} {binds : List (Str × Value)}
    (B : Below A₀ base outer h₀) (F : Fr h₀ L s.heap m) (X₀ : K.In h₀) (N : News h₀ L s.heap news) (T : Top p loose mean mg mb h₀) (hA : A.frames = some (env :: outer)) (hf : env.frame = some L) (hke : env.scope.kind = .function)
    (ho : K.lookup f = some ⟨oc, od, .func (fnOf name qual params body scope dV kV doc pm an cdv ct), osl⟩) (hcd : codeIn K cdv qual = true) (hroom : A.depth < recursionLimit)
    (hbind : BindsTo s (fnOf name qual params body scope dV kV doc pm an cdv ct) args binds) (hloc : ∀ y ∈ binds, scope.names.lookup y.1 = some .local)
    (h : ∀ g L' h₁, Fr h₀ L g m → Fr g L' h₁ (fun y => binds.reverse.lookup y) → News g L' h₁ news → Below A base (env :: outer) g → K.In g → Top p loose mean mg mb g → (∀ a o, s.heap.get? a = some o → (∀ p ∈ news, p.1 ≠ a) → g.get? a = some o) →
      wpAny (model prog w) (A.deeper (envOf qual scope L' f cdv)) (execs body (envOf qual scope L' f cdv))
        (fun fl s' => LeaveK h₀ L m g R (match fl with | .ret v => v | _ => .none) s')
        (fun e s' => wpAny (model prog w) (A.deeper (envOf qual scope L' f cdv)) (leaving (envOf qual scope L' f cdv) e) (fun _ s'' => R (.error e) s'') (fun e' s'' => R (.error e') s'') s')
        { s with heap := h₁, toks := s.toks + binds.length })
    (hco : scope.isCoroutine = false) (hgen : scope.isGenerator = false) (hk : scope.kind = .function)
    (hcell : ∀ x ∈ scope.names, x.2 ≠ .cell) : codeAny (model prog w) A (.call (.ref f) args) R s := by
  obtain ⟨FG, BG, st, lv⟩ := groundX (R := R) B F N hA hf hke
  refine codeAny_call_def (fd := fnX name qual params body scope [] dV kV doc pm an cdv ct) (body := body) (binds := binds) hroom ((X₀.keeps F.keep) _ _ ho) rfl (T.nolimit.keeps F.keep) (codeRec_of (X₀.keeps F.keep) hcd) rfl hbind hcell hloc (fun h₁ hns hk₁ => ?_) hco hgen hk
  exact wpAny_mono (h _ s.heap.objs.size h₁ FG ⟨hns, fun b o e => hk₁ b o (of_hideAll _ e), Nat.le_of_eq (hideAll_size _ _)⟩
    (fun p hp => ⟨hk₁ _ _ (N p hp).1, Nat.ne_of_lt (Heap.lt_size (N p hp).1), hideAll_none _ (List.mem_map_of_mem hp)⟩) BG (X₀.keeps st) (T.keeps st)
    (fun a o e n => hideAll_get _ e (fun hm => by obtain ⟨q, hq, he⟩ := List.mem_map.mp hm; exact n q hq he))) (fun fl s' hl => lv _ _ hl) fun _ _ y => y
end
end Mine
namespace Mine
section
def rset (old v n : Int) : Int := if n < 32 then old - old % 2 ^ n.toNat + v % 2 ^ n.toNat else v % 2 ^ n.toNat
def rsetH (old v : Int) : Int := old + (v % 256 - old / 256 % 256) * 256
theorem sh8 (x y : Int) : (x % 2 ^ (8 : Int).toNat - y % 2 ^ (8 : Int).toNat).natAbs < 2 ^ 64 := by
  have h1 := Int.emod_nonneg x (show (2 : Int) ^ (8 : Int).toNat ≠ 0 by decide)
  have h2 := Int.emod_lt_of_pos x (show (0 : Int) < 2 ^ (8 : Int).toNat by decide)
  have h3 := Int.emod_nonneg y (show (2 : Int) ^ (8 : Int).toNat ≠ 0 by decide)
  have h4 := Int.emod_lt_of_pos y (show (0 : Int) < 2 ^ (8 : Int).toNat by decide)
  have e : (2 : Int) ^ (8 : Int).toNat = 256 := by decide
  rw [e] at *
  omega
end
end Mine
namespace Mine
section
open PyProof.V PySem.Spec
abbrev prg : Program := PySem.Challenge.rw_nn0070_01.row.toRowW.prog
inductive HV : List (Int × Value) → List (Int × Int) → Prop
  | nil : HV [] []
  | cons {k v : Int} {t : Tok} {r : List (Int × Value)} {D : List (Int × Int)} : HV r D → HV ((k, .int v t) :: r) ((k, v) :: D)
def IsHd (w : World) (o : Obj) (D : List (Int × Int)) : Prop := ∃ kvs, o.IsDictOf (PySem.intKind prg w) kvs ∧ HV kvs D
def hput (k v : Int) (D : List (Int × Int)) : List (Int × Int) := if D.any (fun p => decide (p.1 = k)) then D.map (fun p => if p.1 = k then (p.1, v) else p) else D ++ [(k, v)]
theorem HV.any {k : Int} {kvs : List (Int × Value)} {D : List (Int × Int)} (h : HV kvs D) : (kvs.any fun p => decide (p.1 = k)) = D.any fun p => decide (p.1 = k) := by
  induction h with
  | nil => rfl
  | cons _ ih => rw [List.any_cons, List.any_cons, ih]
theorem HV.put {k v : Int} {t : Tok} {kvs : List (Int × Value)} {D : List (Int × Int)} (h : HV kvs D) : HV (kvs.map fun p => if p.1 = k then (p.1, Value.int v t) else p) (D.map fun p => if p.1 = k then (p.1, v) else p) := by
  induction h with
  | nil => exact .nil
  | @cons k' v' t' r D' _ ih =>
    rw [List.map_cons, List.map_cons]
    by_cases e : k' = k
    · rw [if_pos e, if_pos e]; exact .cons ih
    · rw [if_neg e, if_neg e]; exact .cons ih
theorem HV.app {k v : Int} {t : Tok} {kvs : List (Int × Value)} {D : List (Int × Int)} (h : HV kvs D) : HV (kvs ++ [(k, .int v t)]) (D ++ [(k, v)]) := by
  induction h with
  | nil => exact .cons .nil
  | cons _ ih => exact .cons ih
theorem HV.stored {k v : Int} {t : Tok} {kvs : List (Int × Value)} {D : List (Int × Int)} (h : HV kvs D) : HV (PySem.stored kvs k (.int v t)) (hput k v D) := by
  unfold PySem.stored hput
  have e := h.any (k := k)
  by_cases q : (D.any fun p => decide (p.1 = k)) = true
  · rw [if_pos (e.trans q), if_pos q]; exact h.put
  · rw [if_neg (fun z => q (e.symm.trans z)), if_neg q]; exact h.app
theorem hput_le {k v : Int} {D : List (Int × Int)} {m : Nat} (h : D.length ≤ m) : (hput k v D).length ≤ m + 1 := by
  unfold hput
  split
  · rw [List.length_map]; omega
  · rw [List.length_append]; exact Nat.succ_le_succ h
theorem HV.flat {kvs : List (Int × Value)} {D : List (Int × Int)} (h : HV kvs D) : FlatPairs PyData.int kvs (D.map fun p => (PyData.int p.1, PyData.int p.2)) := by
  induction h with
  | nil => exact .nil
  | cons _ ih => exact .cons (fun _ => Reads.int _ _) ih
theorem hd_set {w : World} {A : Around} {E : Value → Shared → Prop} {s : Shared} {h₀ : Heap} {L d : Addr} {m : Str → Option Value} {news : List (Addr × Obj)} {g : Obj → List (Addr × Obj)} {o : Obj} {D : List (Int × Int)} {k v : Int} {t u : Tok} {Q : Unit → Shared → Prop}
    (hD : IsHd w o D) (F : Fr h₀ L s.heap m) (N : News h₀ L s.heap news) (U : UpdF d o news g) (hl : D.length ≤ 16)
    (h : ∀ h' o', Fr h₀ L h' m → News h₀ L h' (g o') → IsHd w o' (hput k v D) → Q () { s with heap := h', toks := s.toks + 1 }) :
    wpAny (model prg w) A (setItem (.ref d) (.int k t) (.int v u)) Q E s := by
  obtain ⟨kvs, hd, hv⟩ := hD
  refine setItem_K (dv := .int v) PyProof.V.same_int (intKind_is _ _ _ _) (fun _ => Reads.int _ _) F N U hd hv.flat (fun h' o' F' N' hd' _ => h h' o' F' N' ⟨_, hd', hv.stored⟩) ?_
  rw [List.length_map]; exact Nat.le_trans hl (Nat.le_of_ble_eq_true rfl)
theorem b3_at : ∀ (i : Nat) (c : UInt8), (#[7, 9, 11] : Array UInt8)[i]? = some c → ([.pairF (fun t => .int 0 t) (.int 7), .pairF (fun t => .int 1 t) (.int 9), .pairF (fun t => .int 2 t) (.int 11)] : List Itm)[i]? = some (.pairF (fun t => .int (i : Int) t) (.int (c.toNat : Int)))
  | 0, c, h => by cases h; rfl
  | 1, c, h => by cases h; rfl
  | 2, c, h => by cases h; rfl
  | n + 3, c, h => by simp at h
theorem IsHd.cast {w : World} {o : Obj} {D D' : List (Int × Int)} (h : IsHd w o D) (e : D = D') : IsHd w o D' := e ▸ h
theorem emod_small {a : Int} (h0 : 0 ≤ a) (h1 : a < 18446744073709551616) : a % 2 ^ (64 : Int).toNat = a := Int.emod_eq_of_lt h0 h1
theorem load3 {p0 : Int} (h0 : 4096 ≤ p0) (h1 : p0 < 65536) : hput ((p0 + 2) % 2 ^ (64 : Int).toNat) 11 (hput ((p0 + 1) % 2 ^ (64 : Int).toNat) 9 (hput ((p0 + 0) % 2 ^ (64 : Int).toNat) 7 [])) = [(p0, 7), (p0 + 1, 9), (p0 + 2, 11)] := by
  rw [emod_small (by omega) (by omega), emod_small (by omega) (by omega), emod_small (by omega) (by omega), Int.add_zero]
  have e1 : ¬ (p0 = p0 + 1) := by omega
  have e2 : ¬ (p0 = p0 + 2) := by omega
  have e3 : ¬ (p0 + 1 = p0 + 2) := by omega
  simp [hput, e1, e2, e3]
end
end Mine
namespace Mine
section
open PyProof.V PySem.Spec
theorem code_defSC {prog : Program} {w : World} {A A₀ : Around} {s : Shared} {K : Frag} {h₀ base : Heap} {L : Addr} {m mg mb : Str → Option Value} {p : Program} {loose : List Str} {mean : ExcName → Option Value} {env : Env} {outer : List Env} {R : Result → Shared → Prop} {news : List (Addr × Obj)} {name qual : Str} {params : Arguments} {body : List Stmt} {scope : Scope} {dV kV doc pm cdv ct oc : Value} {an od : Option Addr} {osl : Array (Option Value)} {f : Addr} {args : Args} {binds : List (Str × Value)}
    (B : Below A₀ base outer h₀) (F : Fr h₀ L s.heap m) (X₀ : K.In h₀) (N : News h₀ L s.heap news) (T : Top p loose mean mg mb h₀) (hA : A.frames = some (env :: outer)) (hf : env.frame = some L) (hke : env.scope.kind = .function)
    (ho : K.lookup f = some ⟨oc, od, .func (fnOf name qual params body scope dV kV doc pm an cdv ct), osl⟩) (hcd : codeIn K cdv qual = true) (hroom : A.depth < recursionLimit)
    (hbind : BindsTo s (fnOf name qual params body scope dV kV doc pm an cdv ct) args binds) (hkind : (binds.all fun y => scope.names.lookup y.1 == some .local || scope.names.lookup y.1 == some .cell) = true)
    (hnd : ((cellsFrom 0 scope.names []).map (·.1)).Nodup)
    (h : ∀ g L' h₁ tk cells, Fr h₀ L g m → Fr g L' h₁ (bindL (envOfC qual scope L' f cdv).kindOf binds fun _ => none) → News g L' h₁ (cells ++ news) →
      CellsAre (bindC (envOfC qual scope L' f cdv).kindOf binds fun _ => none) (cellsFrom (L' + 1) scope.names []) cells → Below A base (env :: outer) g → K.In g → Top p loose mean mg mb g → (∀ p ∈ news, p.1 < L') → (∀ a o, s.heap.get? a = some o → (∀ p ∈ news, p.1 ≠ a) → g.get? a = some o) →
      wpAny (model prog w) (A.deeper (envOfC qual scope L' f cdv)) (execs body (envOfC qual scope L' f cdv))
        (fun fl s' => LeaveK h₀ L m g R (match fl with | .ret v => v | _ => .none) s')
        (fun e s' => wpAny (model prog w) (A.deeper (envOfC qual scope L' f cdv)) (leaving (envOfC qual scope L' f cdv) e) (fun _ s'' => R (.error e) s'') (fun e' s'' => R (.error e') s'') s')
        { s with heap := h₁, toks := tk })
    (hco : scope.isCoroutine = false) (hgen : scope.isGenerator = false) (hk : scope.kind = .function) : codeAny (model prog w) A (.call (.ref f) args) R s := by
  obtain ⟨FG, BG, st, lv⟩ := groundX (R := R) B F N hA hf hke
  refine codeAny_call_function (fd := fnX name qual params body scope [] dV kV doc pm an cdv ct) hroom ((X₀.keeps F.keep) _ _ ho) rfl hco hgen rfl (codeRec_of (X₀.keeps F.keep) hcd) (hbind _ _ _ _ ?_)
  refine wpAny_newFunctionEnv_cells hk (kindsX hkind _) fun env' he s' x => ?_
  subst he
  refine ⟨(T.nolimit.keeps F.keep).keeps x.toInCall.keep, codeAny_func ?_⟩
  obtain ⟨h₁, tk, rfl, _⟩ := x.done
  have hk₁ := x.toInCall.keep
  obtain ⟨cells, NC, Y⟩ := Cl.news (h₀ := s.heap) (Nat.le_refl _) fun n c hm => ⟨x.cell n c (lookup_of_mem_nodup (cellsFrom_names scope.names 0 (s.heap.objs.size + 1) [] [] rfl ▸ hnd) hm), x.above n c hm⟩
  refine wpAny_mono (h _ s.heap.objs.size h₁ tk cells FG ⟨x.toInCall.ns, fun b o e => hk₁ b o (of_hideAll _ e), Nat.le_of_eq (hideAll_size _ _)⟩ (fun p hp => ?_) Y BG (X₀.keeps st) (T.keeps st) (fun p hp => Heap.lt_size (N p hp).1)
    (fun a o e n => hideAll_get _ e (fun hm => by obtain ⟨q, hq, he⟩ := List.mem_map.mp hm; exact n q hq he))) (fun fl s' hl => lv _ _ hl) fun _ _ y => y
  rcases List.mem_append.mp hp with hp | hp
  · refine ⟨(NC p hp).1, (NC p hp).2.1, ?_⟩
    cases q : (hideAll s.heap (news.map (·.1))).get? p.1 with
    | none => rfl
    | some o => have := of_hideAll _ q; rw [(NC p hp).2.2] at this; cases this
  · exact ⟨hk₁ _ _ (N p hp).1, Nat.ne_of_lt (Heap.lt_size (N p hp).1), hideAll_none _ (List.mem_map_of_mem hp)⟩
noncomputable def hlook (k : Int) : List (Int × Int) → Option Int
  | [] => none
  | p :: r => if p.1 = k then some p.2 else hlook k r
theorem hlook_spec {k : Int} {D : List (Int × Int)} : PySem.Spec.lookup (PyData.int k) (D.map fun p => (PyData.int p.1, PyData.int p.2)) = (hlook k D).map PyData.int := by
  induction D with
  | nil => rfl
  | cons p r ih =>
    rw [List.map_cons]
    unfold hlook
    show (if PySem.Spec.same (PyData.int p.1) (PyData.int k) = true then _ else _) = _
    rw [PyProof.V.same_int]
    by_cases e : p.1 = k
    · rw [if_pos (by rw [decide_eq_true_eq]; exact e), if_pos e]; rfl
    · rw [if_neg (by rw [decide_eq_true_eq]; exact e), if_neg e]; exact ih
theorem hd_item {w : World} {A : Around} {E : Value → Shared → Prop} {s : Shared} {h₀ : Heap} {L d : Addr} {news : List (Addr × Obj)} {o : Obj} {kvs : List (Int × Value)} {D : List (Int × Int)} {k v : Int} {t : Tok} {Q : Value → Shared → Prop} {value slice : PySem.Expr}
    (hlo : (d == sysModules) = false) (hd : o.IsDictOf (PySem.intKind prg w) kvs) (hv : HV kvs D) (N : News h₀ L s.heap news) (hm : (d, o) ∈ news) (hl : hlook k D = some v) (h : ∀ t' tk', Q (.int v t') { s with toks := tk' })
    (hs : subscripted slice false (.ref d) (.int k t) = operate [.ref d, .int k t] (getItem (.ref d) (.int k t))) :
    wpAny (model prg w) A (subscriptTail value slice (.ref d) (.int k t)) Q E s := by
  have T : TabAt (PySem.intKind prg w) PyData.int s.heap d (D.map fun p => (PyData.int p.1, PyData.int p.2)) := ⟨hlo, kvs, Heap.dictOf_iff.mpr ⟨o, N.get hm, hd⟩, hv.flat⟩
  refine tab_tail T ?_ hs
  obtain ⟨_, kvs', hd', hf'⟩ := T
  obtain ⟨v', hv', hfl⟩ := hf'.of_lookup PyProof.V.same_int (show PySem.Spec.lookup (PyData.int k) _ = some (PyData.int v) by rw [hlook_spec, hl]; rfl)
  obtain ⟨t', rfl⟩ := hfl.int_inv
  exact wpAny_getItem_of (intKind_is _ _ _ _) hd'.mapOf hv' (h t' _)
theorem hl0 {a v : Int} {r : List (Int × Int)} : hlook a ((a, v) :: r) = some v := if_pos rfl
theorem hl1 {a b v v' : Int} {r : List (Int × Int)} (h : b ≠ a) (h' : hlook a r = some v') : hlook a ((b, v) :: r) = some v' := (if_neg h).trans h'
theorem ne01 {a : Int} : a ≠ a + 1 := by omega
theorem ne02 {a : Int} : a ≠ a + 2 := by omega
theorem ne12 {a : Int} : a + 1 ≠ a + 2 := by omega
abbrev tupII (k v : Int) (t u : Tok) : Obj := { cls := .type "tuple", data := .seq #[.int k t, .int v u] }
end
end Mine
theorem Mine.fillAll (w : World) : (Mine.K w.params) = Mine.K w.params ∧ PySem.Challenge.rw_nn0070_01 = PySem.Challenge.rw_nn0070_01 := by
  k_fill
  exact ⟨rfl, rfl⟩
theorem Mine.rowsC : True := by
  (k_with "c0" => ((case zt1 => k_extra "rem"); (case zt2 => k_extra "rem"); (case zp0 => k_extra "dict"); (case zt3 => k_extra "rem"); (case zp1 => assumption); (case zt4 => k_extra "rem"); (case zt5 => k_extra "rem"); (case zp3 => k_extra "dict"); (case zt6 => k_extra "rem")))
  (k_with "c1" => ((case zn => k_is); (case zhv => kernel_rfl); (case zhn => exact Mine.neS_of (by kernel_rfl)); (case zhx => kernel_rfl); (case zhd => kernel_rfl); (case zhs => kernel_rfl); (case zha => intro; kernel_rfl); (case zhc => kernel_rfl)))
  (k_with "c2" => (k_extra "c0"; (case zt7 => k_extra "rem"); (case zp5 => k_extra "dict"); (case zt8 => k_extra "rem"); (case zp6 => assumption); (case zt9 => k_extra "rem"); (case zt10 => k_extra "rem"); (case zp7 => k_extra "dict"); (case zt11 => k_extra "rem"); (case zt12 => k_extra "rem"); (case zp8 => k_extra "dict")))
  (k_with "c3" => ((case zt1 => k_extra "rem"); (case zt2 => k_extra "rem"); (case zp0 => k_extra "dict"); (case zt3 => k_extra "rem")))
  (k_with "c4" => ((case zp4 => assumption); (case zt7 => k_extra "rem"); (case zt8 => k_extra "rem"); (case zp5 => k_extra "dict"); (case zt9 => k_extra "rem"); (case zt10 => k_extra "rem"); (case zp6 => k_extra "dict"); (case zt11 => k_extra "rem"); (case zt12 => k_extra "rem"); (case zp10 => k_extra "dict"); (case zt13 => k_extra "rem"); (case zt14 => k_extra "rem"); (case zp11 => k_extra "dict"); (case zhU => k_extra "put")))
  (k_with "c5" => ((case zho => k_mem); (case zhi => assumption)))
  (k_with "c6" => ((case zp0 => k_extra "bnd"); (case zp1 => k_extra "bnd")))
  (k_with "c7" => ((case zhT => k_extra "take"); (case zp0 => k_extra "dict"); (case zp3 => k_extra "dict"); (case zp1 => assumption); (case zhU => k_extra "put"); (case zhd => decide); (case zp2 => assumption); (case zp4 => assumption); (case zp5 => assumption)))
  (k_with "c8" => ((case zhU => k_extra "put"); (case zp2 => assumption); (case zp4 => assumption); (case zp9 => assumption); (case zp10 => assumption)))
  (k_with "c9" => ((case zhd => decide); (case zhT => k_extra "take")))
  (k_with "c10" => ((case zk1 => k_is); (case zk2 => k_is); (case zk3 => k_is)))
  (k_with "c11" => ((case zhT => k_extra "take"); (case zp0 => k_extra "dict")))
  (k_with "c12" => ((case zt8 => k_extra "rem"); (case zp5 => assumption); (case zt9 => k_extra "rem"); (case zt10 => k_extra "rem"); (case zp6 => k_extra "dict"); (case zt11 => k_extra "rem"); (case zt12 => k_extra "rem"); (case zp7 => k_extra "dict"); (case zt13 => k_extra "rem"); (case zt14 => k_extra "rem"); (case zp10 => k_extra "dict"); (case zt15 => k_extra "rem"); (case zt16 => k_extra "rem"); (case zp11 => k_extra "dict")))
  (k_with "c13" => ((case zh1 => k_mem); (case zi1 => assumption); (case zh2 => k_mem); (case zi2 => assumption)))
  (k_with "c14" => ((case zp4 => k_extra "dict"); (case zt5 => k_extra "rem"); (case zt6 => k_extra "rem"); (case zp1 => k_extra "dict"); (case zt7 => k_extra "rem"); (case zp2 => assumption); (case zt8 => k_extra "rem"); (case zt9 => k_extra "rem"); (case zp6 => k_extra "dict"); (case zt10 => k_extra "rem"); (case zp7 => assumption); (case zt11 => k_extra "rem"); (case zt12 => k_extra "rem"); (case zp8 => k_extra "dict")))
  (k_with "c15" => (k_extra "c3"; (case zt4 => k_extra "rem"); (case zp1 => k_extra "dict")))
  (k_with "c16" => ((case zhf => k_extra "putl"); (case zhg => (intro _; k_extra "putl")); (case zhx => kernel_rfl); (case zhy => kernel_rfl); (case zhs => kernel_rfl); (case zhn => kernel_rfl)))
  (k_with "c17" => ((case zp2 => assumption); (case zp5 => assumption); (case zp6 => assumption)))
  (k_with "c18" => (k_extra "c2"; (case zt13 => k_extra "rem"); (case zt14 => k_extra "rem"); (case zp11 => k_extra "dict"); (case zt15 => k_extra "rem"); (case zt16 => k_extra "rem"); (case zp12 => k_extra "dict"); k_extra "c8"; (case zp13 => assumption); (case zp14 => assumption); (case zp15 => first | assumption | decide); (case zhd => decide)))
  (k_with "c19" => (k_extra "c0"; (case zt7 => k_extra "rem"); (case zp4 => k_extra "dict")))
  (k_with "c20" => ((case zp2 => k_extra "bnd"); (case zp3 => k_extra "bnd")))
  (k_with "c21" => (k_extra "c11"; (case zp3 => k_extra "dict"); (case zp4 => k_extra "dict"); (case zp1 => assumption)))
  (k_with "c22" => ((case zhU => k_extra "put"); (case zhd => decide)))
  (k_with "c23" => ((case zhs => kernel_rfl); (case zha => kernel_rfl); (case zhc => kernel_rfl)))
  (k_with "c24" => (k_extra "c10"; (case zhd => decide); (case zhT => exact Mine.Takes.nil)))
  (k_with "c25" => (k_extra "c19"; k_extra "c12"; (case zhU => k_extra "put"); (case zp2 => assumption); (case zp8 => assumption); (case zp9 => assumption); (case zp12 => assumption); (case zp13 => assumption); (case zp14 => assumption); (case zhd => decide)))
  (k_with "c26" => (k_extra "c3"; (case zt4 => k_extra "rem"); k_extra "c14"; (case zhU => k_extra "put"); (case zp3 => assumption); (case zp5 => assumption); (case zp9 => assumption); (case zp10 => assumption); (case zhd => decide)))
  (k_with "c27" => ((case zhx => kernel_rfl); (case zhd => kernel_rfl)))
  (k_with "c28" => (k_extra "c0"; k_extra "c4"; (case zp2 => assumption); (case zp7 => assumption); (case zp8 => assumption); (case zp9 => first | assumption | decide); (case zp12 => assumption); (case zp13 => assumption)))
  (k_with "c29" => ((case zhc => first | exact Mine.cl_script (by assumption) | exact Mine.cl_top (by assumption)); (case zhm => k_mem); (case zhd => assumption); (case zhx => kernel_rfl); (case zhb => kernel_rfl)))
  (k_with "c30" => ((case zt1 => k_extra "rem"); (case zt2 => k_extra "rem")))
  (k_with "c31" => ((case zh1 => k_mem); (case zh2 => assumption)))
  (k_with "c32" => ((case zh1 => k_extra "put"); (case zh2 => assumption)))
  (k_with "c33" => ((case zhD => decide); (case zh1 => k_mem); (case zi1 => assumption); (case zt1 => k_extra "tupl"); (case zh2 => k_mem); (case zi2 => assumption); (case zt2 => k_extra "tupl")))
  (k_with "c34" => (k_extra "c11"; (case zp3 => k_extra "dict"); (case zp1 => assumption); (case zhd => decide); (case zp2 => assumption); (case zp4 => assumption); (case zp5 => assumption)))
  (k_with "c35" => ((case zp2 => k_extra "bnd"); (case zhs => (intro _; kernel_rfl))))
  (k_with "c36" => ((case zp2 => assumption); (case zhd => decide)))
  (k_with "c37" => ((case zt1 => k_extra "rem"); (case zp0 => assumption); (case zhU => k_extra "put"); (case zp1 => assumption); k_extra "c20"; (case zhd => decide)))
  (k_with "c38" => ((case zp1 => k_extra "bnd"); (case zp2 => k_extra "bnd")))
  (k_with "c39" => (k_extra "c6"; k_extra "c20"; (case zp4 => k_extra "bnd"); (case zp5 => k_extra "bnd"); (case zp6 => k_extra "bnd"); (case zp7 => k_extra "bnd")))
  (k_with "c40" => ((case zp2 => assumption); (case zp3 => assumption); (case zhd => decide)))
  (k_with "c41" => (k_extra "c19"; (case zp2 => assumption); (case zhU => k_extra "put"); (case zp5 => assumption); (case zp6 => assumption)))
  (k_with "c42" => (k_extra "c2"; k_extra "c8"; (case zhd => decide)))
  (k_with "c43" => (k_extra "c10"; (case zhd => decide); (case zhT => k_extra "taker")))
  (k_with "c44" => (k_extra "c3"; (case zp1 => assumption)))
  (k_with "c45" => (k_extra "c17"; (case zp7 => first | assumption | decide); (case zp8 => k_extra "bnd"); (case zp9 => k_extra "bnd")))
  (k_with "c46" => (k_extra "c32"; (case zh3 => k_extra "bnd"); (case zh4 => k_extra "bnd"); (case zh5 => k_extra "bnd")))
  (k_with "c47" => ((case zp7 => k_extra "bnd"); (case zp8 => k_extra "bnd")))
  (k_with "c48" => ((case zhe => first | with_reducible exact rfl | decide); (case zh2 => decide); (case zh3 => decide)))
  (k_with "c49" => (k_extra "c9"; k_extra "c6"))
  (k_with "c50" => (k_extra "c5"; (case zp0 => omega); (case zp1 => omega); (case zhs => (intro _; kernel_rfl))))
  (k_with "c51" => ((case zhx => kernel_rfl); (case zhy => kernel_rfl)))
  (k_with "c52" => ((case zhs => kernel_rfl); (case zha => intro; kernel_rfl); (case zhc => kernel_rfl)))
  (k_with "c53" => ((case zhy => kernel_rfl); (case zhz => exact Nat.le_of_ble_eq_true (by kernel_rfl))))
  (k_with "c54" => ((case zhs => (intro _ _ _; kernel_rfl)); (case zhg => (intro _ _ _; kernel_rfl))))
  (k_with "c55" => (k_extra "c10"; (case zk4 => k_is)))
  (k_with "c56" => ((case zhT => k_extra "take"); k_extra "c22"))
  trivial
namespace Mine
abbrev PW : Program := PySem.Challenge.rw_nn0070_01.row.toRowW.prog
abbrev Led := List (Addr × Obj)
inductive AV
  | int (n : Int)
  | str (x : Str)
  | val (v : Value)
abbrev AV.ref (a : Addr) : AV := .val (.ref a)
abbrev AV.bool (b : Bool) : AV := .val (.bool b)
abbrev AV.none : AV := .val .none
abbrev Locs := List (Str × AV)
def AV.Is : AV → Value → Prop
  | .int n, v => ∃ t, v = .int n t
  | .str x, v => ∃ t, v = .str x t
  | .val u, v => v = u
noncomputable def VIs : List AV → List Value → Prop
  | [], [] => True
  | a :: as, u :: us => a.Is u ∧ VIs as us
  | _, _ => False
noncomputable def BIs : Locs → List (Str × Value) → Prop
  | [], [] => True
  | a :: as, u :: us => a.1 = u.1 ∧ a.2.Is u.2 ∧ BIs as us
  | _, _ => False
theorem BIs.app : ∀ {a : Locs} {b : List (Str × Value)} {a' : Locs} {b' : List (Str × Value)}, BIs a b → BIs a' b' → BIs (a ++ a') (b ++ b')
  | [], [], _, _, _, h => h
  | _ :: _, _ :: _, _, _, h, h' => ⟨h.1, h.2.1, BIs.app h.2.2 h'⟩
theorem BIs.rev : ∀ {a : Locs} {b : List (Str × Value)}, BIs a b → BIs a.reverse b.reverse
  | [], [], h => h
  | x :: a, y :: b, h => by
    rw [List.reverse_cons, List.reverse_cons]
    exact BIs.app (BIs.rev h.2.2) ⟨h.1, h.2.1, trivial⟩
theorem BIs.look : ∀ {a : Locs} {b : List (Str × Value)}, BIs a b → ∀ x v, a.lookup x = some v → ∃ u, b.lookup x = some u ∧ v.Is u
  | [], [], _, _, _, e => by cases e
  | (n, v') :: a, (n', u') :: b, h, x, v, e => by
    obtain ⟨rfl, h1, h2⟩ : n = n' ∧ v'.Is u' ∧ BIs a b := h
    rw [List.lookup_cons] at e ⊢
    cases hx : x == n with
    | true => rw [hx] at e; exact ⟨u', rfl, Option.some.inj e ▸ h1⟩
    | false => rw [hx] at e; exact BIs.look h2 x v e
theorem BIs.zip : ∀ {ns : List Str} {vs : List AV} {us : List Value}, VIs vs us → BIs (ns.zip vs) (ns.zip us)
  | [], _, _, _ => by simp [List.zip_nil_left, BIs]
  | _ :: _, [], [], _ => trivial
  | _ :: _, _ :: _, _ :: _, h => ⟨rfl, h.1, BIs.zip h.2⟩
abbrev plOf (o : PySem.Expr) (env : Env) : Sem Bool := do return (← importBound o env).getD true
structure At (g : Heap) (L : Addr) (h : Heap) (l : Locs) (led : Led) : Prop where
  fr : ∃ m, Fr g L h m ∧ ∀ x v, l.lookup x = some v → ∃ u, m x = some u ∧ v.Is u
  nw : News g L h led
  nd : (led.map (·.1)).Nodup
structure Cx (w : World) (S : Scope) (D : Nat) where
  p : Program
  loose : List Str
  mean : ExcName → Option Value
  mg : Str → Option Value
  mb : Str → Option Value
  dp : Nat
  un : Nat
  gd : Option (List Code)
  cn : Str
  a : Addr
  ccd : Value
  cl : List (Str × Addr)
  outer : List Env
  A₀ : Around
  base : Heap
  g : Heap
  L : Addr
  B : Below A₀ base outer g
  X : (K w.params).In g
  T : Top p loose mean mg mb g
  hk : S.kind = .function
  hd : dp + D < recursionLimit
  hu : un + 8 * D < cLine
variable {w : World} {S : Scope} {D : Nat}
abbrev Cx.env (c : Cx w S D) : Env := envX c.cn S c.L c.a c.ccd c.cl
abbrev Cx.A (c : Cx w S D) : Around := ktrTop c.dp c.un c.gd c.cn S c.L c.a c.ccd c.cl c.outer
def WpV (c : Cx w S D) (l : Locs) (led : Led) (t : Sem Value) (P : AV → Led → Prop) : Prop :=
  ∀ (s : Shared) (Q E : Value → Shared → Prop), At c.g c.L s.heap l led → (∀ v led' u h' tk', P v led' → v.Is u → At c.g c.L h' l led' → Q u { s with heap := h', toks := tk' }) → wpAny (model PW w) c.A t Q E s
def WpB (c : Cx w S D) (l : Locs) (led : Led) (t : Sem Bool) (P : Bool → Led → Prop) : Prop :=
  ∀ (s : Shared) (Q : Bool → Shared → Prop) (E : Value → Shared → Prop), At c.g c.L s.heap l led → (∀ b led' h' tk', P b led' → At c.g c.L h' l led' → Q b { s with heap := h', toks := tk' }) → wpAny (model PW w) c.A t Q E s
def WpU (c : Cx w S D) (l : Locs) (led : Led) (t : Sem Unit) (P : Led → Prop) : Prop :=
  ∀ (s : Shared) (Q : Unit → Shared → Prop) (E : Value → Shared → Prop), At c.g c.L s.heap l led → (∀ led' h' tk', P led' → At c.g c.L h' l led' → Q () { s with heap := h', toks := tk' }) → wpAny (model PW w) c.A t Q E s
def Ev (c : Cx w S D) (l : Locs) (led : Led) (e : PySem.Expr) (P : AV → Led → Prop) : Prop := WpV c l led (eval e c.env) P
def Tr (c : Cx w S D) (l : Locs) (led : Led) (e : PySem.Expr) (P : Bool → Led → Prop) : Prop := WpB c l led (isTrue e c.env (eval e c.env)) P
def Evs (c : Cx w S D) (l : Locs) (led : Led) (es : List PySem.Expr) (P : List AV → Led → Prop) : Prop :=
  ∀ (pos : Pos) (s : Shared) (Q : List Value → Shared → Prop) (E : Value → Shared → Prop), At c.g c.L s.heap l led → (∀ vs led' us h' tk', P vs led' → VIs vs us → At c.g c.L h' l led' → Q us { s with heap := h', toks := tk' }) →
    wpAny (model PW w) c.A (spliced (backTo pos (starEach es c.env))) Q E s
def CallV (c : Cx w S D) (l : Locs) (f : Value) (vs : List AV) (led : Led) (P : AV → Led → Prop) : Prop := ∀ us, VIs vs us → WpV c l led (call f us) P
def Bin (c : Cx w S D) (l : Locs) (op : Operator) (x y : AV) (led : Led) (P : AV → Led → Prop) : Prop := ∀ u v, x.Is u → y.Is v → WpV c l led (binaryOp op u v) P
def Cmp (c : Cx w S D) (l : Locs) (op : CmpOp) (x y : AV) (led : Led) (P : AV → Led → Prop) : Prop := ∀ u v, x.Is u → y.Is v → WpV c l led (compareOp op u v) P
inductive Out
  | next
  | ret (v : AV)
def Out.Is : Out → Flow → Prop
  | .next, f => f = .next
  | .ret v, f => ∃ u, f = .ret u ∧ v.Is u
def Run (c : Cx w S D) (l : Locs) (led : Led) (ss : List Stmt) (P : Out → Locs → Led → Prop) : Prop :=
  ∀ (s : Shared) (Q : Flow → Shared → Prop) (E : Value → Shared → Prop), PassesOwn (model PW w) c.A c.env E → At c.g c.L s.heap l led → (∀ o l' led' f h' tk', P o l' led' → o.Is f → At c.g c.L h' l' led' → Q f { s with heap := h', toks := tk' }) → wpAny (model PW w) c.A (execs ss c.env) Q E s
def Seq (c : Cx w S D) (rest : List Stmt) (P : Out → Locs → Led → Prop) : Out → Locs → Led → Prop
  | .next, l, led => Run c l led rest P
  | .ret v, l, led => P (.ret v) l led
def IfB (b : Bool) (X Y : Prop) : Prop := (b = true → X) ∧ (b = false → Y)
theorem IfB.tt {X Y : Prop} (h : X) : IfB true X Y := ⟨fun _ => h, fun e => nomatch e⟩
theorem IfB.ff {X Y : Prop} (h : Y) : IfB false X Y := ⟨fun e => (nomatch e), fun _ => h⟩
theorem IfB.pos {b : Bool} {X Y : Prop} (hb : b = true) (h : X) : IfB b X Y := hb ▸ IfB.tt h
theorem IfB.neg {b : Bool} {X Y : Prop} (hb : b = false) (h : Y) : IfB b X Y := hb ▸ IfB.ff h
theorem IfB.both {b : Bool} {X Y : Prop} (h : b = true → X) (h' : b = false → Y) : IfB b X Y := ⟨h, h'⟩
theorem IfB.dec {p : Prop} [Decidable p] {X Y : Prop} (h : p → X) (h' : ¬ p → Y) : IfB (decide p) X Y := ⟨fun e => h (of_decide_eq_true e), fun e => h' (of_decide_eq_false e)⟩
theorem IfB.beq {α : Type} [BEq α] [LawfulBEq α] {x y : α} {X Y : Prop} (h : x = y → X) (h' : x ≠ y → Y) : IfB (x == y) X Y := ⟨fun e => h (eq_of_beq e), fun e => h' (fun q => by rw [q, beq_self_eq_true] at e; cases e)⟩
theorem IfB.bne {α : Type} [BEq α] [LawfulBEq α] {x y : α} {X Y : Prop} (h : x ≠ y → X) (h' : x = y → Y) : IfB (x != y) X Y := by
  refine ⟨fun e => h fun q => ?_, fun e => h' ?_⟩
  · rw [q, bne_self_eq_false] at e; cases e
  · exact Classical.byContradiction fun n => by rw [bne_iff_ne.mpr n] at e; cases e
theorem IfB.not {b : Bool} {X Y : Prop} (h : IfB b Y X) : IfB (!b) X Y := by cases b with | true => exact IfB.ff (h.1 rfl) | false => exact IfB.tt (h.2 rfl)
theorem IfB.decT {p : Prop} [Decidable p] {X Y : Prop} (hp : p) (h : X) : IfB (decide p) X Y := IfB.pos (decide_eq_true hp) h
theorem IfB.decF {p : Prop} [Decidable p] {X Y : Prop} (hp : ¬ p) (h : Y) : IfB (decide p) X Y := IfB.neg (decide_eq_false hp) h
def BoolV (v : AV) (X : Bool → Prop) : Prop := ∃ b, v = .bool b ∧ X b
theorem BoolV.intro {b : Bool} {X : Bool → Prop} (h : X b) : BoolV (.bool b) X := ⟨b, rfl, h⟩
theorem Seq.next {c : Cx w S D} {rest : List Stmt} {P : Out → Locs → Led → Prop} {l : Locs} {led : Led} (h : Run c l led rest P) : Seq c rest P .next l led := h
theorem Seq.ret {c : Cx w S D} {rest : List Stmt} {P : Out → Locs → Led → Prop} {l : Locs} {led : Led} {v : AV} (h : P (.ret v) l led) : Seq c rest P (.ret v) l led := h
section rulesV
variable {c : Cx w S D} {l : Locs} {led : Led} {P : AV → Led → Prop} {R : Out → Locs → Led → Prop} {x : Str} {pos pos' : Pos} {k : Nat}
theorem Run.nil (h : R .next l led) : Run c l led [] R := fun s Q E hE hA hQ => wpAny_execs_nil (hQ _ _ _ _ s.heap s.toks h rfl hA)
theorem Run.ret {e : PySem.Expr} {rest : List Stmt} (h : Ev c l led e fun v led' => R (.ret v) l led') : Run c l led (.Return (some e) pos :: rest) R := fun s Q E hE hA hQ =>
  wpAny_execs_cons (wpAny_Return_some (h s _ E hA fun v led' u h' tk' hP hv hA' => hQ _ _ _ _ h' tk' hP ⟨u, rfl, hv⟩ hA'))
theorem Run.retN {rest : List Stmt} (h : R (.ret .none) l led) : Run c l led (.Return none pos :: rest) R := fun s Q E hE hA hQ =>
  wpAny_execs_cons (wpAny_Return_none (hQ _ _ _ _ s.heap s.toks h ⟨_, rfl, rfl⟩ hA))
inductive PutL (x : Str) : Locs → (AV → Locs) → Prop
  | hd {y r} : PutL x ((x, y) :: r) (fun v => (x, v) :: r)
  | tl {z y r f} : (x == z) = false → PutL x r f → PutL x ((z, y) :: r) (fun v => (z, y) :: f v)
  | new {r} : PutL x r (fun v => (x, v) :: r)
theorem PutL.look {x : Str} {l : Locs} {f : AV → Locs} (h : PutL x l f) (v : AV) : ∀ z, (f v).lookup z = if z = x then some v else l.lookup z := by
  have hd' : ∀ (r : Locs) (z : Str), ((x, v) :: r).lookup z = if z = x then some v else r.lookup z := fun r z => by
    rw [List.lookup_cons]
    by_cases q : z = x
    · subst q; rw [beq_self_eq_true, if_pos rfl]
    · rw [if_neg q, beq_eq_false_iff_ne.mpr q]
  induction h with
  | hd =>
    intro z
    rw [hd']
    by_cases q : z = x
    · rw [if_pos q, if_pos q]
    · rw [if_neg q, if_neg q, List.lookup_cons, beq_eq_false_iff_ne.mpr q]
  | @tl y' y r f e _ ih =>
    intro z
    rw [List.lookup_cons, List.lookup_cons, ih z]
    by_cases q : z = x
    · subst q; rw [e, if_pos rfl]
    · rw [if_neg q, if_neg q]
  | new => exact hd' _
theorem loc_put {l : Locs} {f : AV → Locs} {m : Str → Option Value} {x : Str} {v : AV} {u : Value} (hf : PutL x l f) (hv : v.Is u) (hl : ∀ x v, l.lookup x = some v → ∃ u, m x = some u ∧ v.Is u) :
    ∀ z v', (f v).lookup z = some v' → ∃ u', (if z = x then some u else m z) = some u' ∧ v'.Is u' := fun z v' e => by
  rw [hf.look v z] at e
  by_cases q : z = x
  · rw [if_pos q] at e ⊢; exact ⟨u, rfl, Option.some.inj e ▸ hv⟩
  · rw [if_neg q] at e ⊢; exact hl z v' e
theorem Run.assign {e : PySem.Expr} {rest : List Stmt} {f : AV → Locs} (hx : S.names.lookup x = some .local) (hf : PutL x l f) (h : Ev c l led e fun v led' => Run c (f v) led' rest R)
    (hs : swapsWith e (some (.Name x pos')) pos.line c.env = pure false) : Run c l led (.Assign [.Name x pos'] e pos :: rest) R := fun s Q E hE hA hQ => by
  refine wpAny_execs_cons (wpAny_Assign_Name (h s _ E hA fun v led' u h' tk' hP hv hA' => ?_) hs)
  obtain ⟨⟨m, F, hl⟩, N, nd⟩ := hA'
  exact storeX_L F N (fun h2 F2 N2 => hP _ _ _ hE ⟨⟨_, F2, loc_put hf hv hl⟩, N2, nd⟩ fun o l' led'' f h3 tk3 hR ho hA3 => hQ _ _ _ _ h3 tk3 hR ho hA3) c.hk hx
theorem Run.ifs {test : PySem.Expr} {body orelse rest : List Stmt} (h : Tr c l led test fun b led' => IfB b (Run c l led' body (Seq c rest R)) (Run c l led' orelse (Seq c rest R))) :
    Run c l led (.If test body orelse pos :: rest) R := fun s Q E hE hA hQ => by
  refine wpAny_execs_cons (wpAny_If (h s _ E hA fun b led' h' tk' hP hA' => ?_))
  cases b with
  | true =>
    refine (if_pos rfl).mpr (hP.1 rfl _ _ _ hE hA' fun o l' led'' f h3 tk3 hS ho hA3 => ?_)
    cases o with
    | next => obtain rfl : f = .next := ho; exact hS _ _ _ hE hA3 fun o l' led'' f h4 tk4 hR ho hA4 => hQ _ _ _ _ h4 tk4 hR ho hA4
    | ret v => obtain ⟨u, rfl, hv⟩ := ho; exact hQ _ _ _ _ h3 tk3 hS ⟨u, rfl, hv⟩ hA3
  | false =>
    refine (if_neg (by decide)).mpr (hP.2 rfl _ _ _ hE hA' fun o l' led'' f h3 tk3 hS ho hA3 => ?_)
    cases o with
    | next => obtain rfl : f = .next := ho; exact hS _ _ _ hE hA3 fun o l' led'' f h4 tk4 hR ho hA4 => hQ _ _ _ _ h4 tk4 hR ho hA4
    | ret v => obtain ⟨u, rfl, hv⟩ := ho; exact hQ _ _ _ _ h3 tk3 hS ⟨u, rfl, hv⟩ hA3
theorem Run.exprs {e : PySem.Expr} {rest : List Stmt} (h : Ev c l led e fun _ led' => Run c l led' rest R) (hi : interactive c.env = false := by with_unfolding_all rfl)
    (hs : swapsWith e none pos.line c.env = pure false := by with_unfolding_all rfl) : Run c l led (.Expr e pos :: rest) R := fun s Q E hE hA hQ =>
  wpAny_execs_cons (wpAny_Expr_any (h s _ E hA fun v led' u h' tk' hP _ hA' => hP _ _ _ hE hA' fun o l' led'' f h3 tk3 hR ho hA3 => hQ _ _ _ _ h3 tk3 hR ho hA3) hi hs)
theorem Ev.name {v : AV} (hv : l.lookup x = some v) (hx : S.names.lookup x = some .local) (hd : (x == ("__debug__" : Str)) = false) (h : P v led) : Ev c l led (.Name x pos) P := fun s Q E hA hQ => by
  obtain ⟨m, F, hl⟩ := hA.fr
  obtain ⟨u, hu, hi⟩ := hl x v hv
  exact nameX_L F hu (hQ v led u s.heap s.toks h hi hA) c.hk hx hd
theorem Ev.glob {v : Value} (e : nsIn (K w.params) mainGlobals x = some (some v)) (hx : S.names.lookup x = some .globalImplicit) (hd : (x == ("__debug__" : Str)) = false) (h : ∀ a : AV, a.Is v → P a led) (ha : ∃ a : AV, a.Is v) : Ev c l led (.Name x pos) P := fun s Q E hA hQ => by
  obtain ⟨m, F, hl⟩ := hA.fr
  obtain ⟨a, ha⟩ := ha
  exact nameX_K F c.X (topRead_of c.T) e (hQ a led v s.heap s.toks (h a ha) ha hA) c.hk hx hd
theorem Ev.int {i : Int} (h : P (.int i) led) : Ev c l led (.Constant (.int i) k pos) P := fun s Q E hA hQ => wpAny_Constant_int (hQ _ _ _ s.heap (s.toks + 1) h ⟨_, rfl⟩ hA)
theorem Ev.str (h : P (.str x) led) : Ev c l led (.Constant (.str x) k pos) P := fun s Q E hA hQ => Constant_str (hQ _ _ _ s.heap (s.toks + 1) h ⟨_, rfl⟩ hA)
theorem Ev.bool {b : Bool} (h : P (.bool b) led) : Ev c l led (.Constant (.bool b) k pos) P := fun s Q E hA hQ => Constant_bool (hQ _ _ _ s.heap s.toks h rfl hA)
theorem Ev.none (h : P .none led) : Ev c l led (.Constant .none k pos) P := fun s Q E hA hQ => wpAny_Constant_none (hQ _ _ _ s.heap s.toks h rfl hA)
theorem Ev.bin {a b : PySem.Expr} {op : Operator} (h : Ev c l led a fun x led1 => Ev c l led1 b fun y led2 => Bin c l op x y led2 P) : Ev c l led (.BinOp a op b pos) P := fun s Q E hA hQ =>
  wpAny_BinOp (h s _ E hA fun x led1 u h1 tk1 hP hu hA1 => hP _ _ E hA1 fun y led2 v h2 tk2 hB hv hA2 => hB u v hu hv _ _ E hA2 fun v' led3 u' h3 tk3 hP3 i hA3 => hQ v' led3 u' h3 tk3 hP3 i hA3)
theorem Ev.cmp {a b : PySem.Expr} {op : CmpOp} (h : Ev c l led a fun x led1 => Ev c l led1 b fun y led2 => Cmp c l op x y led2 P) (hm : behindInMarks op b = false := by rfl) : Ev c l led (.Compare a [op] [b] pos) P := fun s Q E hA hQ =>
  wpAny_Compare1 (h s _ E hA fun x led1 u h1 tk1 hP hu hA1 => hP _ _ E hA1 fun y led2 v h2 tk2 hB hv hA2 => hB u v hu hv _ _ E hA2 fun v' led3 u' h3 tk3 hP3 i hA3 => hQ v' led3 u' h3 tk3 hP3 i hA3) hm
theorem Tr.cmp {a b : PySem.Expr} {op : CmpOp} {P : Bool → Led → Prop} (h : Ev c l led a fun x led1 => Ev c l led1 b fun y led2 => Cmp c l op x y led2 fun v led3 => BoolV v fun b => P b led3) (hm : behindInMarks op b = false := by rfl) : Tr c l led (.Compare a [op] [b] pos) P := fun s Q E hA hQ =>
  wpAny_isTrue_Compare1 (h s _ E hA fun x led1 u h1 tk1 hP hu hA1 => hP _ _ E hA1 fun y led2 v h2 tk2 hB hv hA2 => hB u v hu hv _ _ E hA2 fun v' led3 u' h3 tk3 hP3 i hA3 => by
    obtain ⟨b, rfl, hb⟩ := hP3
    obtain rfl : u' = .bool b := i
    exact wpAny_truthy_bool (hQ b led3 h3 tk3 hb hA3)) hm
theorem Tr.plain {e : PySem.Expr} {P : Bool → Led → Prop} (h : Ev c l led e fun v led' => BoolV v fun b => P b led') (hp : isTrue e c.env (eval e c.env) = (do let v ← eval e c.env; standAt e.pos; holding [v] (truthy v)) := by rfl) : Tr c l led e P := fun s Q E hA hQ =>
  isTrue_plain (h s _ E hA fun v led' u h' tk' hP hv hA' => by
    obtain ⟨b, rfl, hb⟩ := hP
    obtain rfl : u = .bool b := hv
    exact wpAny_truthy_bool (hQ b led' h' tk' hb hA')) hp
theorem Tr.not {e : PySem.Expr} {P : Bool → Led → Prop} (h : Tr c l led e fun b led' => P (!b) led') : Tr c l led (.UnaryOp .Not e pos) P := fun s Q E hA hQ =>
  isTrue_not (h s _ E hA fun b led' h' tk' hP hA' => hQ (!b) led' h' tk' hP hA')
theorem Ev.ifx {test a b : PySem.Expr} (h : Tr c l led test fun t led' => IfB t (Ev c l led' a P) (Ev c l led' b P)) : Ev c l led (.IfExp test a b pos) P := fun s Q E hA hQ =>
  IfExp_ (h s _ E hA fun t led' h' tk' hP hA' => by
    cases t with
    | true => exact (if_pos rfl).mpr (hP.1 rfl _ _ E hA' fun v led3 u h3 tk3 hP3 i hA3 => hQ v led3 u h3 tk3 hP3 i hA3)
    | false => exact (if_neg (by decide)).mpr (hP.2 rfl _ _ E hA' fun v led3 u h3 tk3 hP3 i hA3 => hQ v led3 u h3 tk3 hP3 i hA3))
theorem Evs.nil {P : List AV → Led → Prop} (h : P [] led) : Evs c l led [] P := fun pos s Q E hA hQ => args_nil (hQ [] led [] s.heap s.toks h trivial hA)
theorem Evs.cons {e : PySem.Expr} {es : List PySem.Expr} {P : List AV → Led → Prop} (h : Ev c l led e fun v led1 => Evs c l led1 es fun vs led2 => P (v :: vs) led2) (hs : starEach (e :: es) c.env = (false, eval e c.env) :: starEach es c.env := by rfl) : Evs c l led (e :: es) P := fun pos s Q E hA hQ =>
  args_cons (h s _ E hA fun v led1 u h1 tk1 hP hv hA1 => hP pos _ _ E hA1 fun vs led2 us h2 tk2 hP2 hvs hA2 => hQ (v :: vs) led2 (u :: us) h2 tk2 hP2 ⟨hv, hvs⟩ hA2) hs
theorem Ev.call {f : PySem.Expr} {fv : Value} {e : PySem.Expr} {es : List PySem.Expr} (hf : Ev c l led f fun v led' => v = .val fv ∧ led' = led) (hk : keepIn (K w.params) fv = true) (h : Evs c l led (e :: es) fun vs led' => CallV c l fv vs led' P)
    (hs : starEach (e :: es) c.env = (false, eval e c.env) :: starEach es c.env := by rfl) (ha : ∀ pos, ((backTo pos (starEach es c.env)).any fun x => x.1) = false := by intro; rfl)
    (hc : eval (.Call f (e :: es) [] pos) c.env = (do let g ← eval f c.env; callWith pos g [] (backTo pos (starEach (e :: es) c.env)) (backToKw pos (keywordEach [] c.env))) := by rfl) : Ev c l led (.Call f (e :: es) [] pos) P := fun s Q E hA hQ => by
  refine Call_ (hf s _ E hA fun v led' u h1 tk1 hP hv hA1 => ?_) hc
  obtain ⟨rfl, rfl⟩ := hP
  obtain rfl : u = fv := hv
  refine callWith_K (K := K w.params) c.X hk (h pos _ _ E hA1 fun vs led2 us h2 tk2 hC hvs hA2 => ?_) hs (ha pos)
  obtain ⟨m, F, _⟩ := hA2.fr
  exact ⟨c.X.keeps F.keep, hC us hvs _ _ E hA2 fun v led3 u h3 tk3 hP3 i hA3 => hQ v led3 u h3 tk3 hP3 i hA3⟩
end rulesV
section intops
variable {c : Cx w S D} {l : Locs} {led : Led} {P : AV → Led → Prop} {a b : Int}
theorem Bin.of {op : Operator} {x y : AV} (h : ∀ u v, x.Is u → y.Is v → ∀ (s : Shared) (Q E : Value → Shared → Prop), (∀ v led' u tk', P v led' → v.Is u → led' = led → Q u { s with heap := s.heap, toks := tk' }) → wpAny (model PW w) c.A (binaryOp op u v) Q E s) : Bin c l op x y led P :=
  fun u v hu hv s Q E hA hQ => h u v hu hv s Q E fun v led' u tk' hP i e => hQ v led' u s.heap tk' hP i (e ▸ hA)
theorem Bin.add (h : P (.int (a + b)) led) : Bin c l .Add (.int a) (.int b) led P := .of fun _ _ ⟨_, hu⟩ ⟨_, hv⟩ s Q E hQ => by subst hu; subst hv; exact add_int (hQ _ _ _ _ h ⟨_, rfl⟩ rfl)
theorem Bin.sub (h : P (.int (a - b)) led) : Bin c l .Sub (.int a) (.int b) led P := .of fun _ _ ⟨_, hu⟩ ⟨_, hv⟩ s Q E hQ => by subst hu; subst hv; exact sub_int (hQ _ _ _ _ h ⟨_, rfl⟩ rfl)
theorem Bin.band (h : P (.int (Builtin.bitAnd a b)) led) : Bin c l .BitAnd (.int a) (.int b) led P := .of fun _ _ ⟨_, hu⟩ ⟨_, hv⟩ s Q E hQ => by subst hu; subst hv; exact and_int (hQ _ _ _ _ h ⟨_, rfl⟩ rfl)
theorem Bin.shr (h0 : 0 ≤ b) (h : P (.int (a.fdiv (2 ^ b.toNat))) led) : Bin c l .RShift (.int a) (.int b) led P := .of fun _ _ ⟨_, hu⟩ ⟨_, hv⟩ s Q E hQ => by subst hu; subst hv; exact rshift_int h0 (hQ _ _ _ _ h ⟨_, rfl⟩ rfl)
theorem Cmp.of {op : CmpOp} {x y : AV} (h : ∀ u v, x.Is u → y.Is v → ∀ (s : Shared) (Q E : Value → Shared → Prop), (∀ v led' u tk', P v led' → v.Is u → led' = led → Q u { s with heap := s.heap, toks := tk' }) → wpAny (model PW w) c.A (compareOp op u v) Q E s) : Cmp c l op x y led P :=
  fun u v hu hv s Q E hA hQ => h u v hu hv s Q E fun v led' u tk' hP i e => hQ v led' u s.heap tk' hP i (e ▸ hA)
theorem Cmp.eqI (h : P (.bool (a == b)) led) : Cmp c l .Eq (.int a) (.int b) led P := .of fun _ _ ⟨_, hu⟩ ⟨_, hv⟩ s Q E hQ => by subst hu; subst hv; exact eq_int (hQ _ _ _ s.toks h rfl rfl)
theorem Cmp.neI (h : P (.bool (a != b)) led) : Cmp c l .NotEq (.int a) (.int b) led P := .of fun _ _ ⟨_, hu⟩ ⟨_, hv⟩ s Q E hQ => by subst hu; subst hv; exact ne_int (hQ _ _ _ s.toks h rfl rfl)
theorem Cmp.ltI (h : P (.bool (decide (a < b))) led) : Cmp c l .Lt (.int a) (.int b) led P := .of fun _ _ ⟨_, hu⟩ ⟨_, hv⟩ s Q E hQ => by subst hu; subst hv; exact lt_int (hQ _ _ _ s.toks h rfl rfl)
theorem Cmp.leI (h : P (.bool (decide (a ≤ b))) led) : Cmp c l .LtE (.int a) (.int b) led P := .of fun _ _ ⟨_, hu⟩ ⟨_, hv⟩ s Q E hQ => by subst hu; subst hv; exact le_int (hQ _ _ _ s.toks h rfl rfl)
theorem Cmp.gtI (h : P (.bool (decide (b < a))) led) : Cmp c l .Gt (.int a) (.int b) led P := .of fun _ _ ⟨_, hu⟩ ⟨_, hv⟩ s Q E hQ => by subst hu; subst hv; exact gt_int (hQ _ _ _ s.toks h rfl rfl)
theorem Cmp.geI (h : P (.bool (decide (b ≤ a))) led) : Cmp c l .GtE (.int a) (.int b) led P := .of fun _ _ ⟨_, hu⟩ ⟨_, hv⟩ s Q E hQ => by subst hu; subst hv; exact ge_int (hQ _ _ _ s.toks h rfl rfl)
end intops
end Mine
namespace Mine
inductive Rem (q : Addr × Obj) : Led → Led → Prop
  | head {r} : Rem q (q :: r) r
  | tail {p r r'} : Rem q r r' → Rem q (p :: r) (p :: r')
theorem Rem.perm {q : Addr × Obj} {a b : Led} (h : Rem q a b) : a.Perm (q :: b) := by
  induction h with
  | head => exact .refl _
  | tail _ ih => exact (ih.cons _).trans (.swap ..)
def Takes (sub led : Led) : Prop := ∃ rest, led.Perm (sub ++ rest)
theorem Takes.nil {led : Led} : Takes [] led := ⟨led, .refl _⟩
theorem Takes.cons {q : Addr × Obj} {sub led led' : Led} (h : Rem q led led') (t : Takes sub led') : Takes (q :: sub) led := by
  obtain ⟨r, hr⟩ := t
  exact ⟨r, h.perm.trans (hr.cons q)⟩
theorem Takes.all {led : Led} : Takes led led := ⟨[], by rw [List.append_nil]⟩
theorem Takes.mem {sub led : Led} (t : Takes sub led) : ∀ q ∈ sub, q ∈ led := fun q hq => by
  obtain ⟨r, hr⟩ := t
  exact hr.mem_iff.mpr (List.mem_append_left _ hq)
theorem Takes.nd {sub led : Led} (t : Takes sub led) (h : (led.map (·.1)).Nodup) : (sub.map (·.1)).Nodup := by
  obtain ⟨r, hr⟩ := t
  have := (hr.map (·.1)).nodup_iff.mp h
  rw [List.map_append] at this
  exact (List.nodup_append.mp this).1
theorem Takes.apart {a b led : Led} (t : Takes (a ++ b) led) (h : (led.map (·.1)).Nodup) : ∀ q ∈ a, ∀ p ∈ b, q.1 ≠ p.1 := fun q hq p hp => by
  have := t.nd h
  rw [List.map_append] at this
  exact (List.nodup_append.mp this).2.2 _ (List.mem_map_of_mem hq) _ (List.mem_map_of_mem hp)
inductive Put (d : Addr) (o : Obj) : Led → (Obj → Led) → Prop
  | head {r} : Put d o ((d, o) :: r) (fun o' => (d, o') :: r)
  | tail {p r g} : Put d o r g → Put d o (p :: r) (fun o' => p :: g o')
theorem Put.spec {d : Addr} {o : Obj} {led : Led} {g : Obj → Led} (h : Put d o led g) : ∃ pre post, led = pre ++ (d, o) :: post ∧ ∀ o', g o' = pre ++ (d, o') :: post := by
  induction h with
  | head => exact ⟨[], _, rfl, fun _ => rfl⟩
  | tail _ ih =>
    obtain ⟨pre, post, e, f⟩ := ih
    exact ⟨_ :: pre, post, by rw [e]; rfl, fun o' => congrArg (List.cons _) (f o')⟩
theorem Put.nd {d : Addr} {o : Obj} {led : Led} {g : Obj → Led} (h : Put d o led g) (n : (led.map (·.1)).Nodup) (o' : Obj) : ((g o').map (·.1)).Nodup := by
  obtain ⟨pre, post, rfl, f⟩ := h.spec
  rw [f o']
  simpa using n
theorem Put.mem {d : Addr} {o : Obj} {led : Led} {g : Obj → Led} (h : Put d o led g) : (d, o) ∈ led := by
  obtain ⟨pre, post, rfl, f⟩ := h.spec
  exact List.mem_append_right _ (.head _)
theorem Put.upd {d : Addr} {o : Obj} {led : Led} {g : Obj → Led} (h : Put d o led g) (n : (led.map (·.1)).Nodup) (o' : Obj) : ∀ q ∈ g o', q = (d, o') ∨ (q ∈ led ∧ q.1 ≠ d) := by
  obtain ⟨pre, post, rfl, f⟩ := h.spec
  rw [f o']
  intro q hq
  rw [List.map_append, List.map_cons, List.nodup_append, List.nodup_cons] at n
  rcases List.mem_append.mp hq with h | h
  · exact .inr ⟨List.mem_append_left _ h, n.2.2 _ (List.mem_map_of_mem h) _ (.head _)⟩
  · rcases List.mem_cons.mp h with rfl | h
    · exact .inl rfl
    · exact .inr ⟨List.mem_append_right _ (.tail _ h), fun e => n.2.1.1 (by have := List.mem_map_of_mem (f := (·.1)) h; rwa [e] at this)⟩
def CallsN (w : World) (f : Addr) (vs : List AV) (sub : Led) (d : Nat) (P : AV → Led → Prop) : Prop :=
  (sub.map (·.1)).Nodup → ∀ us, VIs vs us → ∀ (p : Program) (loose : List Str) (mean : ExcName → Option Value) (mg mb : Str → Option Value) (dp un : Nat) (gd : Option (List Code)) (cn : Str) (cs : Scope) (a : Addr) (ccd : Value) (cl : List (Str × Addr)) (outer : List Env) (A₀ : Around) (base h₀ : Heap) (L : Addr) (m : Str → Option Value) (s : Shared) (R : Result → Shared → Prop),
    Below A₀ base outer h₀ → Fr h₀ L s.heap m → (K w.params).In h₀ → News h₀ L s.heap sub → Top p loose mean mg mb h₀ → cs.kind = .function → dp + d < recursionLimit → un + 8 * d < cLine →
    (∀ a v nw h' tk', a.Is v → P a nw → Fr h₀ L h' m → News h₀ L h' nw → (nw.map (·.1)).Nodup → (∀ q ∈ nw, s.heap.get? q.1 = none) → (∀ a o, s.heap.get? a = some o → h'.get? a = some o) → R (.ok (.ret v)) { s with heap := h', toks := tk' }) →
    codeAny (model PW w) (ktrTop dp un gd cn cs L a ccd cl outer) (.call (.ref f) ⟨us, []⟩) R s
def CallsT (w : World) (f : Addr) (vs : List AV) (sub : Led) (fd : Addr) (d : Nat) (P : AV → Obj → Prop) : Prop :=
  (sub.map (·.1)).Nodup → ∀ us, VIs vs us → ∀ (p : Program) (loose : List Str) (mean : ExcName → Option Value) (mg mb : Str → Option Value) (dp un : Nat) (gd : Option (List Code)) (cn : Str) (cs : Scope) (a : Addr) (ccd : Value) (cl : List (Str × Addr)) (outer : List Env) (A₀ : Around) (base h₀ : Heap) (L : Addr) (m : Str → Option Value) (s : Shared) (R : Result → Shared → Prop),
    Below A₀ base outer h₀ → Fr h₀ L s.heap m → (K w.params).In h₀ → News h₀ L s.heap sub → Top p loose mean mg mb h₀ → cs.kind = .function → dp + d < recursionLimit → un + 8 * d < cLine →
    (∀ a v o' h' tk', a.Is v → P a o' → Fr h₀ L h' m → News h₀ L h' [(fd, o')] → (∀ a o, s.heap.get? a = some o → a ∉ [fd] → h'.get? a = some o) → R (.ok (.ret v)) { s with heap := h', toks := tk' }) →
    codeAny (model PW w) (ktrTop dp un gd cn cs L a ccd cl outer) (.call (.ref f) ⟨us, []⟩) R s
variable {w : World} {S : Scope} {D : Nat}
section calls
variable {c : Cx w S D} {l : Locs} {led sub : Led} {P : AV → Led → Prop} {f : Addr} {vs : List AV} {d : Nat}
theorem CallV.n (C : CallsN w f vs sub d fun v nw => P v (nw ++ led)) (hd : d ≤ D) (T : Takes sub led) : CallV c l (.ref f) vs led P := fun us hv s Q E hA hQ => by
  obtain ⟨m, F, hl⟩ := hA.fr
  refine wpAny_call (C (T.nd hA.nd) us hv c.p c.loose c.mean c.mg c.mb c.dp c.un c.gd c.cn S c.a c.ccd c.cl c.outer c.A₀ c.base c.g c.L m s _ c.B F c.X (fun q hq => hA.nw q (T.mem q hq)) c.T c.hk (Nat.lt_of_le_of_lt (Nat.add_le_add_left hd _) c.hd) (Nat.lt_of_le_of_lt (Nat.add_le_add_left (Nat.mul_le_mul_left 8 hd) _) c.hu) ?_)
  intro a v nw h' tk' i hP F' N' nd fr kp
  refine hQ a _ v h' tk' hP i ⟨⟨m, F', hl⟩, fun q hq => ?_, ?_⟩
  · rcases List.mem_append.mp hq with h | h
    · exact N' q h
    · exact ⟨kp _ _ (hA.nw q h).1, (hA.nw q h).2⟩
  · rw [List.map_append, List.nodup_append]
    refine ⟨nd, hA.nd, fun x hx y hy e => ?_⟩
    obtain ⟨q, hq, rfl⟩ := List.mem_map.mp hx
    obtain ⟨q', hq', rfl⟩ := List.mem_map.mp hy
    have := (hA.nw q' hq').1
    rw [← e, fr q hq] at this
    cases this
theorem CallsN.mono {P' : AV → Led → Prop} (C : CallsN w f vs sub d P) (hm : ∀ v nw, P v nw → P' v nw) : CallsN w f vs sub d P' := fun nd us hv p loose mean mg mb dp un gd cn cs a ccd cl outer A₀ base h₀ L m s R B F X N T hk hd hu hret =>
  C nd us hv p loose mean mg mb dp un gd cn cs a ccd cl outer A₀ base h₀ L m s R B F X N T hk hd hu fun a v nw h' tk' i hP => hret a v nw h' tk' i (hm a nw hP)
def Nw0 (nw : Led) (X : Prop) : Prop := nw = [] ∧ X
theorem Nw0.intro {X : Prop} (h : X) : Nw0 [] X := ⟨rfl, h⟩
theorem CallV.n0 (C : CallsN w f vs sub d fun v nw => Nw0 nw (P v led)) (hd : d ≤ D) (T : Takes sub led) : CallV c l (.ref f) vs led P :=
  CallV.n (C.mono fun v nw h => by obtain ⟨rfl, h⟩ := h; exact h) hd T
theorem CallV.t {fd : Addr} {o : Obj} {g : Obj → Led} (C : CallsT w f vs sub fd d fun v o' => P v (g o')) (hd : d ≤ D) (T : Takes sub led) (U : Put fd o led g) : CallV c l (.ref f) vs led P := fun us hv s Q E hA hQ => by
  obtain ⟨m, F, hl⟩ := hA.fr
  refine wpAny_call (C (T.nd hA.nd) us hv c.p c.loose c.mean c.mg c.mb c.dp c.un c.gd c.cn S c.a c.ccd c.cl c.outer c.A₀ c.base c.g c.L m s _ c.B F c.X (fun q hq => hA.nw q (T.mem q hq)) c.T c.hk (Nat.lt_of_le_of_lt (Nat.add_le_add_left hd _) c.hd) (Nat.lt_of_le_of_lt (Nat.add_le_add_left (Nat.mul_le_mul_left 8 hd) _) c.hu) ?_)
  intro a v o' h' tk' i hP F' N' kp
  refine hQ a _ v h' tk' hP i ⟨⟨m, F', hl⟩, fun q hq => ?_, U.nd hA.nd o'⟩
  rcases U.upd hA.nd o' q hq with rfl | ⟨h, n⟩
  · exact N' _ (.head _)
  · exact ⟨kp _ _ (hA.nw q h).1 (fun e => n (List.mem_singleton.mp e)), (hA.nw q h).2⟩
end calls
noncomputable def ForV : Nat → (List Value → Prop) → Prop
  | 0, p => p []
  | n + 1, p => ∀ u, ForV n fun us => p (u :: us)
theorem ForV.use : ∀ {vs : List AV} {us : List Value} {p : List Value → Prop}, ForV vs.length p → VIs vs us → p us
  | [], [], _, h, _ => h
  | a :: as, u :: us, p, h, hv => ForV.use (vs := as) (us := us) (p := fun us => p (u :: us)) (h u) hv.2
def Out.Val : Out → AV → Prop
  | .next, a => a = .none
  | .ret v, a => a = v
def FinN (sub : Led) (P : AV → Led → Prop) : Out → Locs → Led → Prop := fun o _ led => ∃ a nw, o.Val a ∧ P a nw ∧ Takes (nw ++ sub) led
def FinT (sub' : Obj → Led) (P : AV → Obj → Prop) : Out → Locs → Led → Prop := fun o _ led => ∃ a o', o.Val a ∧ P a o' ∧ Takes (sub' o') led
theorem FinN.ret {sub led nw : Led} {P : AV → Led → Prop} {a : AV} {l : Locs} (h : P a nw) (t : Takes (nw ++ sub) led) : FinN sub P (.ret a) l led := ⟨a, nw, rfl, h, t⟩
theorem FinN.ret0 {sub led : Led} {P : AV → Led → Prop} {a : AV} {l : Locs} (h : P a []) (t : Takes sub led) : FinN sub P (.ret a) l led := ⟨a, [], rfl, h, t⟩
theorem FinN.next {sub led nw : Led} {P : AV → Led → Prop} {l : Locs} (h : P .none nw) (t : Takes (nw ++ sub) led) : FinN sub P .next l led := ⟨_, nw, rfl, h, t⟩
theorem FinT.ret {sub' : Obj → Led} {led : Led} {P : AV → Obj → Prop} {a : AV} {l : Locs} {o' : Obj} (h : P a o') (t : Takes (sub' o') led) : FinT sub' P (.ret a) l led := ⟨a, o', rfl, h, t⟩
theorem FinT.next {sub' : Obj → Led} {led : Led} {P : AV → Obj → Prop} {l : Locs} {o' : Obj} (h : P .none o') (t : Takes (sub' o') led) : FinT sub' P .next l led := ⟨_, o', rfl, h, t⟩
theorem flow_val {o : Out} {f : Flow} {a : AV} (h : o.Is f) (ha : o.Val a) : a.Is (match (generalizing := false) f with | .ret v => v | _ => .none) := by
  cases o with
  | next => obtain rfl : f = .next := h; obtain rfl : a = .none := ha; exact rfl
  | ret v => obtain ⟨u, rfl, hv⟩ := h; obtain rfl : a = v := ha; exact hv
theorem VIs.app : ∀ {a : List AV} {b : List Value} {a' : List AV} {b' : List Value}, VIs a b → VIs a' b' → VIs (a ++ a') (b ++ b')
  | [], [], _, _, _, h => h
  | _ :: _, _ :: _, _, _, h, h' => ⟨h.1, VIs.app h.2 h'⟩
section entry
variable {f : Addr} {vs : List AV} {sub : Led} {name qual : Str} {params : Arguments} {body : List Stmt} {dV kV doc pm cdv ct oc : Value} {an od : Option Addr} {osl : Array (Option Value)} {ns : List Str} {ds : List Value} {dvs : List AV}
theorem CallsN.of_body {P : AV → Led → Prop} (D : Nat) {d : Nat} (ho : (K w.params).lookup f = some ⟨oc, od, .func (fnOf name qual params body S dV kV doc pm an cdv ct), osl⟩) (hcd : codeIn (K w.params) cdv qual = true)
    (hdv : VIs dvs ds) (hb : ForV vs.length fun us => ∀ s : Shared, (K w.params).In s.heap → BindsTo s (fnOf name qual params body S dV kV doc pm an cdv ct) ⟨us, []⟩ (ns.zip (us ++ ds))) (hloc : (ns.all fun x => decide (S.names.lookup x = some .local)) = true)
    (hco : S.isCoroutine = false) (hgen : S.isGenerator = false) (hk : S.kind = .function) (hcell : ∀ x ∈ S.names, x.2 ≠ .cell) (hD : D + 1 ≤ d)
    (h : ∀ c : Cx w S D, Run c (ns.zip (vs ++ dvs)).reverse sub body (FinN sub P)) : CallsN w f vs sub d P := by
  intro nd us hv p loose mean mg mb dp un gd cn cs a ccd cl outer A₀ base h₀ L m s R B F X N T hkc hd hu hret
  refine code_defS (binds := ns.zip (us ++ ds)) B F X N T rfl rfl hkc ho hcd (Nat.lt_of_le_of_lt (Nat.le_add_right _ _) hd) (ForV.use hb hv s (X.keeps F.keep)) (fun y hy => ?_) (fun g L' h₁ FG F' N' B' X' T' GX => ?_) hco hgen hk hcell
  · exact of_decide_eq_true (List.all_eq_true.mp hloc _ (List.of_mem_zip hy).1)
  · refine h ⟨p, loose, mean, mg, mb, dp + 1, un + 3, gd, qual, f, cdv, [], envX cn cs L a ccd cl :: outer, _, base, g, L', B', X', T', hk, by omega, by omega⟩ _ _ _ PassesOwn.leaving ⟨⟨_, F', BIs.look (BIs.rev (BIs.zip (hv.app hdv)))⟩, N', nd⟩ (fun o l' led' fl h' tk' hP hfl hA => ?_)
    obtain ⟨av, nw, ha, hP, ht⟩ := hP
    obtain ⟨m'', F'', _⟩ := hA.fr
    refine leaveK_ F'' hA.nw fun F3 N3 => hret av _ nw h' tk' (flow_val hfl ha) hP F3 (fun q hq => N3 q (ht.mem q (List.mem_append_left _ hq))) ?_ ?_ ?_
    · have := ht.nd hA.nd
      rw [List.map_append] at this
      exact (List.nodup_append.mp this).1
    · intro q hq
      cases e : s.heap.get? q.1 with
      | none => rfl
      | some o =>
        have hn := ht.apart hA.nd q hq
        have := GX q.1 o e fun p hp => Ne.symm (hn p hp)
        rw [(hA.nw q (ht.mem q (List.mem_append_left _ hq))).2.2] at this
        cases this
    · intro b o e
      by_cases hb : ∃ q ∈ sub, q.1 = b
      · obtain ⟨q, hq, rfl⟩ := hb
        have := (N q hq).1
        rw [e] at this
        rw [(hA.nw q (ht.mem q (List.mem_append_right _ hq))).1, Option.some.inj this]
      · exact F''.keep _ _ (GX b o e fun p hp he => hb ⟨p, hp, he⟩)
theorem CallsT.of_body {P : AV → Obj → Prop} (D : Nat) {d : Nat} {fd : Addr} {o₀ : Obj} {sub' : Obj → Led} (hU : Put fd o₀ sub sub') (ho : (K w.params).lookup f = some ⟨oc, od, .func (fnOf name qual params body S dV kV doc pm an cdv ct), osl⟩) (hcd : codeIn (K w.params) cdv qual = true)
    (hdv : VIs dvs ds) (hb : ForV vs.length fun us => ∀ s : Shared, (K w.params).In s.heap → BindsTo s (fnOf name qual params body S dV kV doc pm an cdv ct) ⟨us, []⟩ (ns.zip (us ++ ds))) (hloc : (ns.all fun x => decide (S.names.lookup x = some .local)) = true)
    (hco : S.isCoroutine = false) (hgen : S.isGenerator = false) (hk : S.kind = .function) (hcell : ∀ x ∈ S.names, x.2 ≠ .cell) (hD : D + 1 ≤ d)
    (h : ∀ c : Cx w S D, Run c (ns.zip (vs ++ dvs)).reverse sub body (FinT sub' P)) : CallsT w f vs sub fd d P := by
  intro nd us hv p loose mean mg mb dp un gd cn cs a ccd cl outer A₀ base h₀ L m s R B F X N T hkc hd hu hret
  refine code_defS (binds := ns.zip (us ++ ds)) B F X N T rfl rfl hkc ho hcd (Nat.lt_of_le_of_lt (Nat.le_add_right _ _) hd) (ForV.use hb hv s (X.keeps F.keep)) (fun y hy => ?_) (fun g L' h₁ FG F' N' B' X' T' GX => ?_) hco hgen hk hcell
  · exact of_decide_eq_true (List.all_eq_true.mp hloc _ (List.of_mem_zip hy).1)
  · refine h ⟨p, loose, mean, mg, mb, dp + 1, un + 3, gd, qual, f, cdv, [], envX cn cs L a ccd cl :: outer, _, base, g, L', B', X', T', hk, by omega, by omega⟩ _ _ _ PassesOwn.leaving ⟨⟨_, F', BIs.look (BIs.rev (BIs.zip (hv.app hdv)))⟩, N', nd⟩ (fun o l' led' fl h' tk' hP hfl hA => ?_)
    obtain ⟨av, o', ha, hP, ht⟩ := hP
    obtain ⟨m'', F'', _⟩ := hA.fr
    obtain ⟨pre, post, rfl, fg⟩ := hU.spec
    rw [fg o'] at ht
    refine leaveK_ F'' hA.nw fun F3 N3 => hret av _ o' h' tk' (flow_val hfl ha) hP F3 (fun q hq => N3 q (ht.mem q ?_)) ?_
    · rw [List.mem_singleton.mp hq]; exact List.mem_append_right _ (.head _)
    · intro b o e hn
      by_cases hb : ∃ q ∈ pre ++ (fd, o₀) :: post, q.1 = b
      · obtain ⟨q, hq, rfl⟩ := hb
        have := (N q hq).1
        rw [e] at this
        have hq' : q ∈ pre ++ (fd, o') :: post := by
          rcases List.mem_append.mp hq with h | h
          · exact List.mem_append_left _ h
          · rcases List.mem_cons.mp h with rfl | h
            · exact absurd (List.mem_singleton.mpr rfl) hn
            · exact List.mem_append_right _ (.tail _ h)
        rw [(hA.nw q (ht.mem q hq')).1, Option.some.inj this]
      · exact F''.keep _ _ (GX b o e fun p hp he => hb ⟨p, hp, he⟩)
end entry
end Mine
namespace Mine
theorem lk_hd {x : Str} {v : AV} {l : Locs} : ((x, v) :: l).lookup x = some v := by rw [List.lookup_cons, beq_self_eq_true]
theorem lk_tl {x : Str} {y : Str × AV} {v : AV} {l : Locs} (h : (x == y.1) = false) (r : l.lookup x = some v) : (y :: l).lookup x = some v := by rw [List.lookup_cons, h]; exact r
theorem lk1_ {x : Str} {v : AV} {l : Locs} : ((x, v) :: l).lookup x = some v := lk_hd
theorem lk2_ {x : Str} {v : AV} {l : Locs} {x0 : Str × AV} (h0 : (x == x0.1) = false) : (x0 :: (x, v) :: l).lookup x = some v := (lk_tl h0 lk_hd)
theorem lk3_ {x : Str} {v : AV} {l : Locs} {x0 x1 : Str × AV} (h0 : (x == x0.1) = false) (h1 : (x == x1.1) = false) : (x0 :: x1 :: (x, v) :: l).lookup x = some v := (lk_tl h0 (lk_tl h1 lk_hd))
theorem lk4_ {x : Str} {v : AV} {l : Locs} {x0 x1 x2 : Str × AV} (h0 : (x == x0.1) = false) (h1 : (x == x1.1) = false) (h2 : (x == x2.1) = false) : (x0 :: x1 :: x2 :: (x, v) :: l).lookup x = some v := (lk_tl h0 (lk_tl h1 (lk_tl h2 lk_hd)))
theorem lk5_ {x : Str} {v : AV} {l : Locs} {x0 x1 x2 x3 : Str × AV} (h0 : (x == x0.1) = false) (h1 : (x == x1.1) = false) (h2 : (x == x2.1) = false) (h3 : (x == x3.1) = false) : (x0 :: x1 :: x2 :: x3 :: (x, v) :: l).lookup x = some v := (lk_tl h0 (lk_tl h1 (lk_tl h2 (lk_tl h3 lk_hd))))
theorem lk6_ {x : Str} {v : AV} {l : Locs} {x0 x1 x2 x3 x4 : Str × AV} (h0 : (x == x0.1) = false) (h1 : (x == x1.1) = false) (h2 : (x == x2.1) = false) (h3 : (x == x3.1) = false) (h4 : (x == x4.1) = false) : (x0 :: x1 :: x2 :: x3 :: x4 :: (x, v) :: l).lookup x = some v := (lk_tl h0 (lk_tl h1 (lk_tl h2 (lk_tl h3 (lk_tl h4 lk_hd)))))
theorem lk7_ {x : Str} {v : AV} {l : Locs} {x0 x1 x2 x3 x4 x5 : Str × AV} (h0 : (x == x0.1) = false) (h1 : (x == x1.1) = false) (h2 : (x == x2.1) = false) (h3 : (x == x3.1) = false) (h4 : (x == x4.1) = false) (h5 : (x == x5.1) = false) : (x0 :: x1 :: x2 :: x3 :: x4 :: x5 :: (x, v) :: l).lookup x = some v := (lk_tl h0 (lk_tl h1 (lk_tl h2 (lk_tl h3 (lk_tl h4 (lk_tl h5 lk_hd))))))
theorem lk8_ {x : Str} {v : AV} {l : Locs} {x0 x1 x2 x3 x4 x5 x6 : Str × AV} (h0 : (x == x0.1) = false) (h1 : (x == x1.1) = false) (h2 : (x == x2.1) = false) (h3 : (x == x3.1) = false) (h4 : (x == x4.1) = false) (h5 : (x == x5.1) = false) (h6 : (x == x6.1) = false) : (x0 :: x1 :: x2 :: x3 :: x4 :: x5 :: x6 :: (x, v) :: l).lookup x = some v := (lk_tl h0 (lk_tl h1 (lk_tl h2 (lk_tl h3 (lk_tl h4 (lk_tl h5 (lk_tl h6 lk_hd)))))))
theorem lk9_ {x : Str} {v : AV} {l : Locs} {x0 x1 x2 x3 x4 x5 x6 x7 : Str × AV} (h0 : (x == x0.1) = false) (h1 : (x == x1.1) = false) (h2 : (x == x2.1) = false) (h3 : (x == x3.1) = false) (h4 : (x == x4.1) = false) (h5 : (x == x5.1) = false) (h6 : (x == x6.1) = false) (h7 : (x == x7.1) = false) : (x0 :: x1 :: x2 :: x3 :: x4 :: x5 :: x6 :: x7 :: (x, v) :: l).lookup x = some v := (lk_tl h0 (lk_tl h1 (lk_tl h2 (lk_tl h3 (lk_tl h4 (lk_tl h5 (lk_tl h6 (lk_tl h7 lk_hd))))))))
theorem lk10_ {x : Str} {v : AV} {l : Locs} {x0 x1 x2 x3 x4 x5 x6 x7 x8 : Str × AV} (h0 : (x == x0.1) = false) (h1 : (x == x1.1) = false) (h2 : (x == x2.1) = false) (h3 : (x == x3.1) = false) (h4 : (x == x4.1) = false) (h5 : (x == x5.1) = false) (h6 : (x == x6.1) = false) (h7 : (x == x7.1) = false) (h8 : (x == x8.1) = false) : (x0 :: x1 :: x2 :: x3 :: x4 :: x5 :: x6 :: x7 :: x8 :: (x, v) :: l).lookup x = some v := (lk_tl h0 (lk_tl h1 (lk_tl h2 (lk_tl h3 (lk_tl h4 (lk_tl h5 (lk_tl h6 (lk_tl h7 (lk_tl h8 lk_hd)))))))))
theorem lk11_ {x : Str} {v : AV} {l : Locs} {x0 x1 x2 x3 x4 x5 x6 x7 x8 x9 : Str × AV} (h0 : (x == x0.1) = false) (h1 : (x == x1.1) = false) (h2 : (x == x2.1) = false) (h3 : (x == x3.1) = false) (h4 : (x == x4.1) = false) (h5 : (x == x5.1) = false) (h6 : (x == x6.1) = false) (h7 : (x == x7.1) = false) (h8 : (x == x8.1) = false) (h9 : (x == x9.1) = false) : (x0 :: x1 :: x2 :: x3 :: x4 :: x5 :: x6 :: x7 :: x8 :: x9 :: (x, v) :: l).lookup x = some v := (lk_tl h0 (lk_tl h1 (lk_tl h2 (lk_tl h3 (lk_tl h4 (lk_tl h5 (lk_tl h6 (lk_tl h7 (lk_tl h8 (lk_tl h9 lk_hd))))))))))
theorem lk12_ {x : Str} {v : AV} {l : Locs} {x0 x1 x2 x3 x4 x5 x6 x7 x8 x9 x10 : Str × AV} (h0 : (x == x0.1) = false) (h1 : (x == x1.1) = false) (h2 : (x == x2.1) = false) (h3 : (x == x3.1) = false) (h4 : (x == x4.1) = false) (h5 : (x == x5.1) = false) (h6 : (x == x6.1) = false) (h7 : (x == x7.1) = false) (h8 : (x == x8.1) = false) (h9 : (x == x9.1) = false) (h10 : (x == x10.1) = false) : (x0 :: x1 :: x2 :: x3 :: x4 :: x5 :: x6 :: x7 :: x8 :: x9 :: x10 :: (x, v) :: l).lookup x = some v := (lk_tl h0 (lk_tl h1 (lk_tl h2 (lk_tl h3 (lk_tl h4 (lk_tl h5 (lk_tl h6 (lk_tl h7 (lk_tl h8 (lk_tl h9 (lk_tl h10 lk_hd)))))))))))
theorem lk13_ {x : Str} {v : AV} {l : Locs} {x0 x1 x2 x3 x4 x5 x6 x7 x8 x9 x10 x11 : Str × AV} (h0 : (x == x0.1) = false) (h1 : (x == x1.1) = false) (h2 : (x == x2.1) = false) (h3 : (x == x3.1) = false) (h4 : (x == x4.1) = false) (h5 : (x == x5.1) = false) (h6 : (x == x6.1) = false) (h7 : (x == x7.1) = false) (h8 : (x == x8.1) = false) (h9 : (x == x9.1) = false) (h10 : (x == x10.1) = false) (h11 : (x == x11.1) = false) : (x0 :: x1 :: x2 :: x3 :: x4 :: x5 :: x6 :: x7 :: x8 :: x9 :: x10 :: x11 :: (x, v) :: l).lookup x = some v := (lk_tl h0 (lk_tl h1 (lk_tl h2 (lk_tl h3 (lk_tl h4 (lk_tl h5 (lk_tl h6 (lk_tl h7 (lk_tl h8 (lk_tl h9 (lk_tl h10 (lk_tl h11 lk_hd))))))))))))
theorem lk14_ {x : Str} {v : AV} {l : Locs} {x0 x1 x2 x3 x4 x5 x6 x7 x8 x9 x10 x11 x12 : Str × AV} (h0 : (x == x0.1) = false) (h1 : (x == x1.1) = false) (h2 : (x == x2.1) = false) (h3 : (x == x3.1) = false) (h4 : (x == x4.1) = false) (h5 : (x == x5.1) = false) (h6 : (x == x6.1) = false) (h7 : (x == x7.1) = false) (h8 : (x == x8.1) = false) (h9 : (x == x9.1) = false) (h10 : (x == x10.1) = false) (h11 : (x == x11.1) = false) (h12 : (x == x12.1) = false) : (x0 :: x1 :: x2 :: x3 :: x4 :: x5 :: x6 :: x7 :: x8 :: x9 :: x10 :: x11 :: x12 :: (x, v) :: l).lookup x = some v := (lk_tl h0 (lk_tl h1 (lk_tl h2 (lk_tl h3 (lk_tl h4 (lk_tl h5 (lk_tl h6 (lk_tl h7 (lk_tl h8 (lk_tl h9 (lk_tl h10 (lk_tl h11 (lk_tl h12 lk_hd)))))))))))))
inductive Fd (x : Str) (v : AV) : Locs → Prop
  | hd {l} : Fd x v ((x, v) :: l)
  | tl {y l} : Fd x v l → Fd x v (y :: l)
variable {w : World} {S : Scope} {D : Nat}
section rulesW
variable {c : Cx w S D} {l : Locs} {led : Led} {P : AV → Led → Prop} {R : Out → Locs → Led → Prop} {x : Str} {pos pos' : Pos} {k : Nat}
theorem Ev.gval {v : Value} (e : nsIn (K w.params) mainGlobals x = some (some v)) (hx : S.names.lookup x = some .globalImplicit) (hd : (x == ("__debug__" : Str)) = false) (h : P (.val v) led) : Ev c l led (.Name x pos) P := fun s Q E hA hQ => by
  obtain ⟨m, F, hl⟩ := hA.fr
  exact nameX_K F c.X (topRead_of c.T) e (hQ _ led v s.heap s.toks h rfl hA) c.hk hx hd
theorem Ev.gint {n : Int} {t : Tok} (e : nsIn (K w.params) mainGlobals x = some (some (.int n t))) (hx : S.names.lookup x = some .globalImplicit) (hd : (x == ("__debug__" : Str)) = false) (h : P (.int n) led) : Ev c l led (.Name x pos) P := fun s Q E hA hQ => by
  obtain ⟨m, F, hl⟩ := hA.fr
  exact nameX_K F c.X (topRead_of c.T) e (hQ _ led _ s.heap s.toks h ⟨_, rfl⟩ hA) c.hk hx hd
theorem Ev.gstr {n : Str} {t : Tok} (e : nsIn (K w.params) mainGlobals x = some (some (.str n t))) (hx : S.names.lookup x = some .globalImplicit) (hd : (x == ("__debug__" : Str)) = false) (h : P (.str n) led) : Ev c l led (.Name x pos) P := fun s Q E hA hQ => by
  obtain ⟨m, F, hl⟩ := hA.fr
  exact nameX_K F c.X (topRead_of c.T) e (hQ _ led _ s.heap s.toks h ⟨_, rfl⟩ hA) c.hk hx hd
theorem Ev.callG {f : Str} {fpos : Pos} {fv : Value} {e : PySem.Expr} {es : List PySem.Expr} (n : nsIn (K w.params) mainGlobals f = some (some fv)) (hx : S.names.lookup f = some .globalImplicit) (hd : (f == ("__debug__" : Str)) = false) (hk : keepIn (K w.params) fv = true)
    (h : Evs c l led (e :: es) fun vs led' => CallV c l fv vs led' P)
    (hs : starEach (e :: es) c.env = (false, eval e c.env) :: starEach es c.env) (ha : ∀ pos, ((backTo pos (starEach es c.env)).any fun x => x.1) = false)
    (hc : eval (.Call (.Name f fpos) (e :: es) [] pos) c.env = (do let g ← eval (.Name f fpos) c.env; callWith pos g [] (backTo pos (starEach (e :: es) c.env)) (backToKw pos (keywordEach [] c.env)))) : Ev c l led (.Call (.Name f fpos) (e :: es) [] pos) P := fun s Q E hA hQ =>
  (Ev.call (Ev.gval n hx hd ⟨rfl, rfl⟩) hk h hs ha hc) s Q E hA hQ
theorem Ev.callF {f : Str} {fpos : Pos} {a : Addr} {e : PySem.Expr} {es : List PySem.Expr} (n : nsIn (K w.params) mainGlobals f = some (some (.ref a))) (hx : S.names.lookup f = some .globalImplicit) (hd : (f == ("__debug__" : Str)) = false) (hk : keepIn (K w.params) (.ref a) = true)
    (h : Evs c l led (e :: es) fun vs led' => CallV c l (.ref a) vs led' P)
    (hs : starEach (e :: es) c.env = (false, eval e c.env) :: starEach es c.env) (ha : ∀ pos, ((backTo pos (starEach es c.env)).any fun x => x.1) = false)
    (hc : eval (.Call (.Name f fpos) (e :: es) [] pos) c.env = (do let g ← eval (.Name f fpos) c.env; callWith pos g [] (backTo pos (starEach (e :: es) c.env)) (backToKw pos (keywordEach [] c.env)))) : Ev c l led (.Call (.Name f fpos) (e :: es) [] pos) P := Ev.callG n hx hd hk h hs ha hc
end rulesW
section intops
variable {c : Cx w S D} {l : Locs} {led : Led} {P : AV → Led → Prop} {a b : Int}
theorem Bin.shl (h0 : 0 ≤ b) (h1 : (Builtin.Int.intBits a : Int) + b ≤ 2 ^ 27) (h : P (.int (a * 2 ^ b.toNat)) led) : Bin c l .LShift (.int a) (.int b) led P := .of fun _ _ ⟨_, hu⟩ ⟨_, hv⟩ s Q E hQ => by subst hu; subst hv; exact lshift_int h0 h1 (hQ _ _ _ _ h ⟨_, rfl⟩ rfl)
theorem Bin.mod (h0 : b ≠ 0) (h : P (.int (a.fmod b)) led) : Bin c l .Mod (.int a) (.int b) led P := .of fun _ _ ⟨_, hu⟩ ⟨_, hv⟩ s Q E hQ => by subst hu; subst hv; exact mod_int h0 (hQ _ _ _ _ h ⟨_, rfl⟩ rfl)
end intops
end Mine
theorem Mine.rows1 : True := by
  (k_with "lk" => with_reducible first | exact Mine.lk1_ | (refine' Mine.lk2_ ?zh0; (case zh0 => kernel_rfl)) | (refine' Mine.lk3_ ?zh0 ?zh1; (case zh0 => kernel_rfl); (case zh1 => kernel_rfl)) | (refine' Mine.lk4_ ?zh0 ?zh1 ?zh2; (case zh0 => kernel_rfl); (case zh1 => kernel_rfl); (case zh2 => kernel_rfl)) | (refine' Mine.lk5_ ?zh0 ?zh1 ?zh2 ?zh3; (case zh0 => kernel_rfl); (case zh1 => kernel_rfl); (case zh2 => kernel_rfl); (case zh3 => kernel_rfl)) | (refine' Mine.lk6_ ?zh0 ?zh1 ?zh2 ?zh3 ?zh4; (case zh0 => kernel_rfl); (case zh1 => kernel_rfl); (case zh2 => kernel_rfl); (case zh3 => kernel_rfl); (case zh4 => kernel_rfl)) | (refine' Mine.lk7_ ?zh0 ?zh1 ?zh2 ?zh3 ?zh4 ?zh5; (case zh0 => kernel_rfl); (case zh1 => kernel_rfl); (case zh2 => kernel_rfl); (case zh3 => kernel_rfl); (case zh4 => kernel_rfl); (case zh5 => kernel_rfl)) | (refine' Mine.lk8_ ?zh0 ?zh1 ?zh2 ?zh3 ?zh4 ?zh5 ?zh6; (case zh0 => kernel_rfl); (case zh1 => kernel_rfl); (case zh2 => kernel_rfl); (case zh3 => kernel_rfl); (case zh4 => kernel_rfl); (case zh5 => kernel_rfl); (case zh6 => kernel_rfl)) | (refine' Mine.lk9_ ?zh0 ?zh1 ?zh2 ?zh3 ?zh4 ?zh5 ?zh6 ?zh7; (case zh0 => kernel_rfl); (case zh1 => kernel_rfl); (case zh2 => kernel_rfl); (case zh3 => kernel_rfl); (case zh4 => kernel_rfl); (case zh5 => kernel_rfl); (case zh6 => kernel_rfl); (case zh7 => kernel_rfl)) | (refine' Mine.lk10_ ?zh0 ?zh1 ?zh2 ?zh3 ?zh4 ?zh5 ?zh6 ?zh7 ?zh8; (case zh0 => kernel_rfl); (case zh1 => kernel_rfl); (case zh2 => kernel_rfl); (case zh3 => kernel_rfl); (case zh4 => kernel_rfl); (case zh5 => kernel_rfl); (case zh6 => kernel_rfl); (case zh7 => kernel_rfl); (case zh8 => kernel_rfl)) | (refine' Mine.lk11_ ?zh0 ?zh1 ?zh2 ?zh3 ?zh4 ?zh5 ?zh6 ?zh7 ?zh8 ?zh9; (case zh0 => kernel_rfl); (case zh1 => kernel_rfl); (case zh2 => kernel_rfl); (case zh3 => kernel_rfl); (case zh4 => kernel_rfl); (case zh5 => kernel_rfl); (case zh6 => kernel_rfl); (case zh7 => kernel_rfl); (case zh8 => kernel_rfl); (case zh9 => kernel_rfl)) | (refine' Mine.lk12_ ?zh0 ?zh1 ?zh2 ?zh3 ?zh4 ?zh5 ?zh6 ?zh7 ?zh8 ?zh9 ?zh10; (case zh0 => kernel_rfl); (case zh1 => kernel_rfl); (case zh2 => kernel_rfl); (case zh3 => kernel_rfl); (case zh4 => kernel_rfl); (case zh5 => kernel_rfl); (case zh6 => kernel_rfl); (case zh7 => kernel_rfl); (case zh8 => kernel_rfl); (case zh9 => kernel_rfl); (case zh10 => kernel_rfl)) | (refine' Mine.lk13_ ?zh0 ?zh1 ?zh2 ?zh3 ?zh4 ?zh5 ?zh6 ?zh7 ?zh8 ?zh9 ?zh10 ?zh11; (case zh0 => kernel_rfl); (case zh1 => kernel_rfl); (case zh2 => kernel_rfl); (case zh3 => kernel_rfl); (case zh4 => kernel_rfl); (case zh5 => kernel_rfl); (case zh6 => kernel_rfl); (case zh7 => kernel_rfl); (case zh8 => kernel_rfl); (case zh9 => kernel_rfl); (case zh10 => kernel_rfl); (case zh11 => kernel_rfl)) | (refine' Mine.lk14_ ?zh0 ?zh1 ?zh2 ?zh3 ?zh4 ?zh5 ?zh6 ?zh7 ?zh8 ?zh9 ?zh10 ?zh11 ?zh12; (case zh0 => kernel_rfl); (case zh1 => kernel_rfl); (case zh2 => kernel_rfl); (case zh3 => kernel_rfl); (case zh4 => kernel_rfl); (case zh5 => kernel_rfl); (case zh6 => kernel_rfl); (case zh7 => kernel_rfl); (case zh8 => kernel_rfl); (case zh9 => kernel_rfl); (case zh10 => kernel_rfl); (case zh11 => kernel_rfl); (case zh12 => kernel_rfl)))
  trivial
namespace Mine
variable {w : World} {S : Scope} {D : Nat}
noncomputable def DE (P : Params) : Locs → List DictEntry → Prop
  | [], [] => True
  | a :: as, e :: es => e.hash = PyData.keyHash P a.1 ∧ (∃ t, e.key = .str a.1 t) ∧ a.2.Is e.val ∧ DE P as es
  | _, _ => False
def IsDict (w : World) (o : Obj) (es : Locs) : Prop := ∃ ds, o = dictOf ds es.length ∧ DE w.params es ds
theorem IsDict.nil : IsDict w (dictOf [] 0) [] := ⟨[], rfl, trivial⟩
theorem isStr_is {n x : Str} {t : Tok} : (Value.str x t).isStr n = (x == n) := rfl
theorem DE.get {P : Params} {n : Str} {v : AV} : ∀ {es : Locs} {ds : List DictEntry}, DE P es ds → es.lookup n = some v → ∃ u, getL n ds = some (some u) ∧ v.Is u
  | [], _, _, e => by cases e
  | _ :: _, [], h, _ => False.elim h
  | q :: as, d :: ds, h, e => by
    obtain ⟨x, y⟩ := q
    obtain ⟨_, ⟨t, hk⟩, hv, hr⟩ := h
    rw [List.lookup_cons] at e
    unfold getL
    rw [List.find?_cons, hk, isStr_is]
    by_cases q : x = n
    · subst q
      rw [beq_self_eq_true] at e ⊢
      exact ⟨d.val, rfl, Option.some.inj e ▸ hv⟩
    · have e1 : (n == x) = false := by rw [beq_eq_false_iff_ne]; exact fun z => q z.symm
      have e2 : (x == n) = false := by rw [beq_eq_false_iff_ne]; exact q
      rw [e1] at e
      rw [e2]
      obtain ⟨u, hu, i⟩ := DE.get hr e
      refine ⟨u, ?_, i⟩
      unfold getL at hu
      cases hf : ds.find? (·.key.isStr n) with
      | some z => rw [hf] at hu; exact hu
      | none => rw [hf] at hu; revert hu; dsimp only; split <;> intro hu <;> cases hu
theorem DE.any {P : Params} : ∀ {es : Locs} {ds : List DictEntry}, DE P es ds → ds.any (·.refKey) = false
  | [], [], _ => rfl
  | [], _ :: _, h => False.elim h
  | _ :: _, [], h => False.elim h
  | a :: as, d :: ds, h => by
    obtain ⟨_, ⟨t, hk⟩, _, hr⟩ := h
    rw [List.any_cons, DE.any hr]
    have : d.refKey = false := by unfold DictEntry.refKey; rw [hk]
    rw [this]; rfl
theorem DE.find {P : Params} {n : Str} : ∀ {es : Locs} {ds : List DictEntry}, DE P es ds → es.lookup n = none → ds.find? (·.key.isStr n) = none
  | [], [], _, _ => rfl
  | [], _ :: _, h, _ => False.elim h
  | _ :: _, [], h, _ => False.elim h
  | q :: as, d :: ds, h, e => by
    obtain ⟨x, y⟩ := q
    obtain ⟨_, ⟨t, hk⟩, _, hr⟩ := h
    rw [List.lookup_cons] at e
    rw [List.find?_cons, hk, isStr_is]
    by_cases q : x = n
    · subst q; rw [beq_self_eq_true] at e; cases e
    · have e1 : (n == x) = false := by rw [beq_eq_false_iff_ne]; exact fun z => q z.symm
      have e2 : (x == n) = false := by rw [beq_eq_false_iff_ne]; exact q
      rw [e1] at e
      rw [e2]
      exact DE.find hr e
theorem DE.none {P : Params} {n : Str} {es : Locs} {ds : List DictEntry} (h : DE P es ds) (e : es.lookup n = none) : getL n ds = some none := by
  unfold getL
  rw [DE.find h e]
  dsimp only
  rw [DE.any h]; rfl
theorem DE.isSome {P : Params} {n : Str} {es : Locs} {ds : List DictEntry} (h : DE P es ds) : (getL n ds).isSome = true := by
  cases e : es.lookup n with
  | none => rw [h.none e]; rfl
  | some v => obtain ⟨u, hu, _⟩ := h.get e; rw [hu]; rfl
noncomputable def setE (n : Str) (v : AV) : Locs → Locs
  | [] => [(n, v)]
  | (x, y) :: r => if x == n then (x, v) :: r else (x, y) :: setE n v r
theorem DE.put {P : Params} {n : Str} {v : AV} {u : Value} {t : Tok} (hv : v.Is u) : ∀ {es : Locs} {ds : List DictEntry}, DE P es ds → DE P (setE n v es) (putL n (PyData.keyHash P n) (.str n t) u ds)
  | [], [], _ => ⟨rfl, ⟨t, rfl⟩, hv, trivial⟩
  | [], _ :: _, h => False.elim h
  | _ :: _, [], h => False.elim h
  | q :: as, d :: ds, h => by
    obtain ⟨x, y⟩ := q
    obtain ⟨hh, ⟨t', hk⟩, hy, hr⟩ := h
    unfold setE putL
    rw [hk, isStr_is]
    by_cases q : (x == n) = true
    · rw [if_pos q, if_pos q]; exact ⟨hh, ⟨t', hk ▸ rfl⟩, hv, hr⟩
    · rw [if_neg q, if_neg q]; exact ⟨hh, ⟨t', hk⟩, hy, DE.put hv hr⟩
theorem DE.len {P : Params} : ∀ {es : Locs} {ds : List DictEntry}, DE P es ds → ds.length = es.length
  | [], [], _ => rfl
  | [], _ :: _, h => False.elim h
  | _ :: _, [], h => False.elim h
  | _ :: _, _ :: _, h => congrArg (· + 1) (DE.len h.2.2.2)
theorem DE.putN {P : Params} {n : Str} {v : AV} : ∀ {es : Locs} {ds : List DictEntry} {k : Nat}, DE P es ds → putN n ds (es.length + k) = (setE n v es).length + k
  | [], [], k, _ => by rw [PySem.W.putN, if_neg (by simp)]; simp only [setE, List.length_cons, List.length_nil]; omega
  | [], _ :: _, _, h => False.elim h
  | _ :: _, [], _, h => False.elim h
  | q :: as, d :: ds, k, h => by
    obtain ⟨x, y⟩ := q
    obtain ⟨hh, ⟨t', hk⟩, hy, hr⟩ := h
    have ih := DE.putN (n := n) (v := v) (k := k + 1) hr
    unfold PySem.W.putN at ih ⊢
    unfold setE
    rw [List.any_cons, hk, isStr_is]
    by_cases q : (x == n) = true
    · rw [if_pos (by rw [q]; rfl), if_pos q]; rfl
    · have q' : (x == n) = false := by simpa using q
      rw [if_neg q, q', Bool.false_or]
      simp only [List.length_cons] at ih ⊢
      rw [show as.length + 1 + k = as.length + (k + 1) by omega, ih]
      omega
theorem IsDict.set {o : Obj} {es : Locs} {n : Str} {v : AV} {u : Value} {t : Tok} {ds : List DictEntry} (h : DE w.params es ds) (_ho : o = dictOf ds es.length) (hv : v.Is u) :
    IsDict w (dictOf (putL n (PyData.keyHash w.params n) (.str n t) u ds) (putN n ds es.length)) (setE n v es) := ⟨_, by rw [show putN n ds es.length = (setE n v es).length from DE.putN (k := 0) h], h.put hv⟩
inductive SetE (n : Str) (v : AV) : Locs → Locs → Prop
  | hd {y r} : SetE n v ((n, y) :: r) ((n, v) :: r)
  | tl {x y r r'} : (x == n) = false → SetE n v r r' → SetE n v ((x, y) :: r) ((x, y) :: r')
  | nil : SetE n v [] [(n, v)]
theorem SetE.eq {n : Str} {v : AV} {a b : Locs} (h : SetE n v a b) : setE n v a = b := by
  induction h with
  | hd => unfold setE; rw [if_pos (by rw [beq_self_eq_true])]
  | tl e _ ih => unfold setE; rw [if_neg (by rw [e]; decide), ih]
  | nil => rfl
theorem Put.to_upd {d : Addr} {o : Obj} {led : Led} {g : Obj → Led} (h : Put d o led g) (n : (led.map (·.1)).Nodup) (o' : Obj) : Upd d o o' led (g o') := by
  induction h with
  | head =>
    rw [List.map_cons, List.nodup_cons] at n
    exact .head fun p hp e => n.1 (e ▸ List.mem_map_of_mem (f := (·.1)) hp)
  | @tail p r g h ih =>
    rw [List.map_cons, List.nodup_cons] at n
    exact .tail (fun e => n.1 (by have := List.mem_map_of_mem (f := (·.1)) h.mem; rw [e]; exact this)) (ih n.2)
theorem hand_of {v : AV} {u : Value} (i : v.Is u) (h : ∀ x, v = .val x → handedIn x = true) : handedIn u = true := by
  cases v with
  | int n => obtain ⟨t, rfl⟩ := i; rfl
  | str n => obtain ⟨t, rfl⟩ := i; rfl
  | val x => obtain rfl : u = x := i; exact h _ rfl
def AV.hand : AV → Bool
  | .val x => handedIn x
  | _ => true
theorem AV.hand_of {v : AV} {u : Value} (i : v.Is u) (h : v.hand = true) : handedIn u = true := Mine.hand_of i fun x e => by subst e; exact h
section attrs
variable {c : Cx w S D} {l : Locs} {led : Led} {P : AV → Led → Prop} {R : Out → Locs → Led → Prop} {x n : Str} {pos pos' : Pos} {a d C : Addr} {o : Obj} {es : Locs} {fa : Option Value} {v : AV}
def GetA (c : Cx w S D) (l : Locs) (n : Str) (v : AV) (led : Led) (P : AV → Led → Prop) : Prop := ∀ u, v.Is u → WpV c l led (getAttr u n true) P
theorem GetA.own (ha : (a, instObj C d) ∈ led) (hd : (d, o) ∈ led) (ho : IsDict w o es) (hv : es.lookup n = some v) (h1 : plainGet (K w.params) C n = true) (h2 : hasDictIn (K w.params) C = true) (h3 : findIn (K w.params) (.ref C) n = some fa) (h4 : noGet (K w.params) fa = true) (h5 : v.hand = true) (h : P v led) : GetA c l n (.ref a) led P := fun u hu s Q E hA hQ => by
  obtain rfl : u = .ref a := hu
  obtain ⟨m, F, hl⟩ := hA.fr
  obtain ⟨ds, rfl, hD⟩ := ho
  obtain ⟨u, hu, i⟩ := hD.get hv
  exact get_own F c.X (InstAt.of_news hA.nw ha hd) h1 h2 h3 h4 hu (AV.hand_of i h5) (hQ v led u s.heap (s.toks + 1) h i hA)
theorem Ev.attr {e : PySem.Expr} (h : Ev c l led e fun v led' => GetA c l n v led' P)
    (hs : eval (.Attribute e n pos) c.env = (do let o ← eval e c.env; standAt pos.atName; let r ← holding [o] (getAttr o n true); letTemporaryGo e o r; pure r)) : Ev c l led (.Attribute e n pos) P := fun s Q E hA hQ =>
  Attribute_any_ (h s _ E hA fun v led' u h' tk' hP hv hA' => hP u hv _ _ E hA' fun v led3 u h3 tk3 hP3 i hA3 => hQ v led3 u h3 tk3 hP3 i hA3) hs
def SetA (w : World) (n : Str) (v y : AV) (led : Led) (X : Led → Prop) : Prop := ∃ (a C d : Addr) (o : Obj) (es es' : Locs) (g : Obj → Led), y = .ref a ∧ (a, instObj C d) ∈ led ∧ IsDict w o es ∧ Put d o led g ∧
      (findIn (K w.params) (.ref C) "__setattr__" = some (some (.builtin "object.__setattr__")) ∧ plainOver (K w.params) C = true ∧ takerIn (K w.params) C n = some none ∧ hasDictIn (K w.params) C = true) ∧ setE n v es = es' ∧ Nat.ble es'.length 1000 = true ∧ ∀ o', IsDict w o' es' → X (g o')
theorem SetA.intro {n : Str} {v : AV} {led : Led} {X : Led → Prop} {a C d : Addr} {o : Obj} {es es' : Locs} {g : Obj → Led} (h1 : (a, instObj C d) ∈ led) (h3 : Put d o led g) (h2 : IsDict w o es)
    (k1 : findIn (K w.params) (.ref C) "__setattr__" = some (some (.builtin "object.__setattr__"))) (k2 : plainOver (K w.params) C = true) (k3 : takerIn (K w.params) C n = some none) (k4 : hasDictIn (K w.params) C = true) (hs : SetE n v es es') (hz : Nat.ble es'.length 1000 = true) (h : ∀ o', IsDict w o' es' → X (g o')) : SetA w n v (.ref a) led X :=
  ⟨a, C, d, o, es, es', g, rfl, h1, h2, h3, ⟨k1, k2, k3, k4⟩, hs.eq, hz, h⟩
theorem Run.setattr {e b : PySem.Expr} {rest : List Stmt} (h : Ev c l led e fun v led1 => Ev c l led1 b fun y led2 => SetA w n v y led2 fun led3 => Run c l led3 rest R)
    (hs : swapsWith e (some (.Attribute b n pos')) pos.line c.env = pure false) : Run c l led (.Assign [.Attribute b n pos'] e pos :: rest) R := fun s Q E hE hA hQ => by
  refine wpAny_execs_cons (plainObj_wpAny_Assign_Attribute (h s _ E hA fun v led1 u h1 tk1 hP hv hA1 => hP _ _ E hA1 fun y led2 u2 h2 tk2 hP2 hy hA2 => ?_) hs)
  obtain ⟨a, C, d, o, es, es', g, rfl, ha, ho, hU, ⟨k1, k2, k3, k4⟩, rfl, hz, hR⟩ := hP2
  obtain rfl : u2 = .ref a := hy
  obtain ⟨m, F, hl⟩ := hA2.fr
  obtain ⟨ds, rfl, hD⟩ := ho
  refine set_dict F c.X hA2.nw (InstAt.of_news hA2.nw ha hU.mem) rfl k1 k2 k3 k4 hD.isSome rfl (hU.to_upd hA2.nd _) (by rw [DE.len (hD.put hv)]; exact Nat.le_of_ble_eq_true hz) fun h3 F3 N3 => ?_
  exact hR _ (IsDict.set hD rfl hv) _ _ _ hE ⟨⟨m, F3, hl⟩, N3, hU.nd hA2.nd _⟩ fun o l' led' f h4 tk4 hR4 ho4 hA4 => hQ _ _ _ _ h4 tk4 hR4 ho4 hA4
def MethN (c : Cx w S D) (n : Str) (y : AV) (led : Led) (X : Addr → Addr → Led → Prop) : Prop :=
  ∃ (a C d : Addr) (o : Obj) (es : Locs) (f : Addr), y = .ref a ∧ (a, instObj C d) ∈ led ∧ (d, o) ∈ led ∧ IsDict w o es ∧ es.lookup n = Option.none ∧
      (plainGet (K w.params) C n = true ∧ findIn (K w.params) (.ref C) n = some (some (.ref f)) ∧ isFn (K w.params) (.ref f) = true ∧ keepIn (K w.params) (.ref f) = true) ∧ c.dp = c.dp ∧ X f a led
theorem MethN.intro {a C d : Addr} {o : Obj} {es : Locs} {f : Addr} {X : Addr → Addr → Led → Prop} (h1 : (a, instObj C d) ∈ led) (h2 : (d, o) ∈ led) (h3 : IsDict w o es) (h4 : es.lookup n = Option.none)
    (k1 : plainGet (K w.params) C n = true) (k2 : findIn (K w.params) (.ref C) n = some (some (.ref f))) (k3 : isFn (K w.params) (.ref f) = true) (k4 : keepIn (K w.params) (.ref f) = true) (h : X f a led) : MethN c n (.ref a) led X :=
  ⟨a, C, d, o, es, f, rfl, h1, h2, h3, h4, ⟨k1, k2, k3, k4⟩, rfl, h⟩
theorem Ev.meth1 {b e : PySem.Expr} {args : List PySem.Expr} {apos : Pos} (h : Ev c l led b fun y led1 => MethN c n y led1 fun f a led1 => Evs c l led1 (e :: args) fun vs led2 => CallV c l (.ref f) (.ref a :: vs) led2 P)
    (hs : starEach (e :: args) c.env = (false, eval e c.env) :: starEach args c.env) (ha : ((backTo pos (starEach args c.env)).any fun x => x.1) = false)
    (hc : eval (.Call (.Attribute b n apos) (e :: args) [] pos) c.env = (do let ov ← eval b c.env; standAt apos.atName; let __x ← holding [ov] (getMethod ov n (plOf b c.env)); match __x with | (f, first) => callWith pos f first (backTo pos (starEach (e :: args) c.env)) [])) : Ev c l led (.Call (.Attribute b n apos) (e :: args) [] pos) P := fun s Q E hA hQ => by
  refine MethodCall_ (h s _ E hA fun y led1 u1 h1 tk1 hP hy hA1 => ?_) hc
  obtain ⟨a, C, d, o, es, f, rfl, ha', hd, ho, hn, ⟨k1, k2, k3, k4⟩, _, hE⟩ := hP
  obtain rfl : u1 = .ref a := hy
  obtain ⟨m, F, hl⟩ := hA1.fr
  obtain ⟨ds, rfl, hD⟩ := ho
  refine method_inst F c.X (InstAt.of_news hA1.nw ha' hd) k1 k2 k3 (hD.none hn) ?_
  refine callWith_K (K := K w.params) c.X k4 (hE pos _ _ E hA1 fun vs led2 us h2 tk2 hC hvs hA2 => ?_) hs ha
  obtain ⟨m2, F2, _⟩ := hA2.fr
  exact ⟨c.X.keeps F2.keep, hC (.ref a :: us) ⟨rfl, hvs⟩ _ _ E hA2 fun v led3 u h3 tk3 hP3 i hA3 => hQ v led3 u h3 tk3 hP3 i hA3⟩
theorem Ev.meth0 {b : PySem.Expr} {apos : Pos} (h : Ev c l led b fun y led1 => MethN c n y led1 fun f a led1 => CallV c l (.ref f) [.ref a] led1 P)
    (hc : eval (.Call (.Attribute b n apos) [] [] pos) c.env = (do let ov ← eval b c.env; standAt apos.atName; let __x ← holding [ov] (getMethod ov n (plOf b c.env)); match __x with | (f, first) => callWith pos f first (backTo pos (starEach [] c.env)) [])) : Ev c l led (.Call (.Attribute b n apos) [] [] pos) P := fun s Q E hA hQ => by
  refine MethodCall_ (h s _ E hA fun y led1 u1 h1 tk1 hP hy hA1 => ?_) hc
  obtain ⟨a, C, d, o, es, f, rfl, ha', hd, ho, hn, ⟨k1, k2, k3, k4⟩, _, hE⟩ := hP
  obtain rfl : u1 = .ref a := hy
  obtain ⟨m, F, hl⟩ := hA1.fr
  obtain ⟨ds, rfl, hD⟩ := ho
  refine method_inst F c.X (InstAt.of_news hA1.nw ha' hd) k1 k2 k3 (hD.none hn) ?_
  exact callWith_K0 (K := K w.params) (c.X.keeps F.keep) k4 (hE [.ref a] ⟨rfl, trivial⟩ _ _ E hA1 fun v led3 u h3 tk3 hP3 i hA3 => hQ v led3 u h3 tk3 hP3 i hA3)
theorem Ev.clsf {f0 : Str} {fpos apos : Pos} {mc : Value} {f : Addr} {e : PySem.Expr} {args : List PySem.Expr} (g : nsIn (K w.params) mainGlobals f0 = some (some (.ref C))) (hx : S.names.lookup f0 = some .globalImplicit) (hd : (f0 == ("__debug__" : Str)) = false)
    (k1 : specialIn (K w.params) (.ref C) "__getattribute__" = some (some (.builtin "type.__getattribute__"))) (k2 : typeIn (K w.params) (.ref C) = some mc) (k3 : readsIn (K w.params) C mc = true) (k4 : findCls (K w.params) (.ref C) mc n = some (CFound.val (.ref f))) (k5 : keepIn (K w.params) (.ref f) = true)
    (h : Evs c l led (e :: args) fun vs led2 => CallV c l (.ref f) vs led2 P)
    (hs : starEach (e :: args) c.env = (false, eval e c.env) :: starEach args c.env) (ha : ((backTo pos (starEach args c.env)).any fun x => x.1) = false)
    (hc : eval (.Call (.Attribute (.Name f0 fpos) n apos) (e :: args) [] pos) c.env = (do let ov ← eval (.Name f0 fpos) c.env; standAt apos.atName; let __x ← holding [ov] (getMethod ov n (plOf (.Name f0 fpos) c.env)); match __x with | (f, first) => callWith pos f first (backTo pos (starEach (e :: args) c.env)) [])) : Ev c l led (.Call (.Attribute (.Name f0 fpos) n apos) (e :: args) [] pos) P := fun s Q E hA hQ => by
  obtain ⟨m, F, hl⟩ := hA.fr
  refine MethodCall_ (nameX_K F c.X (topRead_of c.T) g ?_ c.hk hx hd) hc
  refine method_of_cls F c.X k1 (cls_val F c.X k2 k3 k4 rfl ?_)
  refine callWith_K (K := K w.params) c.X k5 (h pos { s with toks := s.toks + 1 } _ E hA fun vs led2 us h2 tk2 hC hvs hA2 => ?_) hs ha
  obtain ⟨m2, F2, _⟩ := hA2.fr
  exact ⟨c.X.keeps F2.keep, hC us hvs _ _ E hA2 fun v led3 u h3 tk3 hP3 i hA3 => hQ v led3 u h3 tk3 hP3 i hA3⟩
end attrs
section tuples
variable {c : Cx w S D} {l : Locs} {led : Led} {P : AV → Led → Prop} {R : Out → Locs → Led → Prop} {x y : Str} {pos tpos px py vpos : Pos} {k k2 : Nat}
def TwoV (vs : List AV) (X : AV → AV → Prop) : Prop := ∃ v1 v2, vs = [v1, v2] ∧ X v1 v2
theorem TwoV.intro {v1 v2 : AV} {X : AV → AV → Prop} (h : X v1 v2) : TwoV [v1, v2] X := ⟨v1, v2, rfl, h⟩
theorem Run.assign2 {e1 e2 : PySem.Expr} {rest : List Stmt} {f : AV → Locs} {g : AV → AV → Locs} (hf : PutL y l f) (hg : ∀ v, PutL x (f v) (g v)) (hx : S.names.lookup x = some .local) (hy : S.names.lookup y = some .local)
    (h : Evs c l led [e1, e2] fun vs led' => TwoV vs fun v1 v2 => Run c (g v2 v1) led' rest R)
    (hs : swapsWithSole [.Tuple [.Name x px, .Name y py] k tpos] (.Tuple [e1, e2] k2 vpos) pos.line c.env = pure false)
    (hn : swappedStores [.Tuple [.Name x px, .Name y py] k tpos] (.Tuple [e1, e2] k2 vpos) c.env = pure (some [x, y])) : Run c l led (.Assign [.Tuple [.Name x px, .Name y py] k tpos] (.Tuple [e1, e2] k2 vpos) pos :: rest) R := fun s Q E hE hA hQ => by
  refine wpAny_execs_cons (Assign_Tuple_swapped (Tuple_ (h vpos s _ E hA fun vs led' us h1 tk1 hP hvs hA1 => ?_)) hs hn)
  obtain ⟨v1, v2, rfl, hR⟩ := hP
  match us, hvs with
  | [u1, u2], ⟨i1, i2, _⟩ =>
  obtain ⟨⟨m, F, hl⟩, N, nd⟩ := hA1
  refine newTuple_N F N (fun h2 F2 N2 => ?_) (Nat.le_of_ble_eq_true rfl)
  refine unpackItemsN_ F2 N2 (N2.isTup (.head _)) rfl rfl fun h3 F3 N3 => ?_
  refine assignInOrder_cons (bindName_ (storeX_L F3 (fun p hp => N3 p (.tail _ hp)) (fun h4 F4 N4 => ?_) c.hk hy))
  refine assignInOrder_cons (bindName_ (storeX_L F4 N4 (fun h5 F5 N5 => ?_) c.hk hx))
  exact assignInOrder_nil (hR _ _ _ hE ⟨⟨_, F5, loc_put (hg v2) i1 (loc_put hf i2 hl)⟩, N5, nd⟩ fun o l' led'' f h6 tk6 hR6 ho hA6 => hQ _ _ _ _ h6 tk6 hR6 ho hA6)
end tuples
end Mine
namespace Mine
variable {w : World} {S : Scope} {D : Nat}
section rulesX
variable {c : Cx w S D} {l : Locs} {led : Led} {P : AV → Led → Prop} {R : Out → Locs → Led → Prop} {x : Str} {pos pos' px : Pos} {k : Nat} {a b : Int}
theorem Bin.xor (h : P (.int (Builtin.bitXor a b)) led) : Bin c l .BitXor (.int a) (.int b) led P := .of fun _ _ ⟨_, hu⟩ ⟨_, hv⟩ s Q E hQ => by subst hu; subst hv; exact xor_int (hQ _ _ _ _ h ⟨_, rfl⟩ rfl)
theorem Bin.bor (h : P (.int (Builtin.bitOr a b)) led) : Bin c l .BitOr (.int a) (.int b) led P := .of fun _ _ ⟨_, hu⟩ ⟨_, hv⟩ s Q E hQ => by subst hu; subst hv; exact or_int (hQ _ _ _ _ h ⟨_, rfl⟩ rfl)
theorem Bin.mul (hm : IntMulOk a b) (h : P (.int (a * b)) led) : Bin c l .Mult (.int a) (.int b) led P := .of fun _ _ ⟨_, hu⟩ ⟨_, hv⟩ s Q E hQ => by subst hu; subst hv; exact mul_int (hQ _ _ _ _ h ⟨_, rfl⟩ rfl) hm
theorem Bin.pow (h0 : 0 ≤ b) (h1 : b ≤ 1000000) (h2 : a.natAbs < 2 ^ 64) (h : P (.int (a ^ b.toNat)) led) : Bin c l .Pow (.int a) (.int b) led P := .of fun _ _ ⟨_, hu⟩ ⟨_, hv⟩ s Q E hQ => by subst hu; subst hv; exact pow_int_small h0 h1 h2 (hQ _ _ _ _ h ⟨_, rfl⟩ rfl)
theorem Bin.fdiv (h0 : b ≠ 0) (hp : Builtin.divisionGoesByPylong a b = false) (h : P (.int (a.fdiv b)) led) : Bin c l .FloorDiv (.int a) (.int b) led P := .of fun _ _ ⟨_, hu⟩ ⟨_, hv⟩ s Q E hQ => by subst hu; subst hv; exact floordiv_int h0 (hQ _ _ _ _ h ⟨_, rfl⟩ rfl) (.inl hp)
theorem Bin.adds {x y : Str} (hz : x.length + y.length ≤ sizeLine) (h : P (.str (x ++ y)) led) : Bin c l .Add (.str x) (.str y) led P := .of fun _ _ ⟨_, hu⟩ ⟨_, hv⟩ s Q E hQ => by subst hu; subst hv; exact add_str (fun t' tk => hQ _ _ _ _ h ⟨_, rfl⟩ rfl) hz
theorem Cmp.eqS {x y : Str} (h : P (.bool (x == y)) led) : Cmp c l .Eq (.str x) (.str y) led P := .of fun _ _ ⟨_, hu⟩ ⟨_, hv⟩ s Q E hQ => by subst hu; subst hv; exact eq_str (hQ _ _ _ s.toks h rfl rfl)
theorem Cmp.neS {x y : Str} (h : P (.bool (x != y)) led) : Cmp c l .NotEq (.str x) (.str y) led P := .of fun _ _ ⟨_, hu⟩ ⟨_, hv⟩ s Q E hQ => by subst hu; subst hv; exact ne_str (hQ _ _ _ s.toks h rfl rfl)
theorem Ev.ifi {test : PySem.Expr} {k2 : Nat} {p1 p2 : Pos} (h : Tr c l led test fun t led' => P (.int (if t = true then a else b)) led') : Ev c l led (.IfExp test (.Constant (.int a) k p1) (.Constant (.int b) k2 p2) pos) P := fun s Q E hA hQ =>
  IfExp_ (h s _ E hA fun t led' h' tk' hP hA' => by
    cases t with
    | true => exact (if_pos rfl).mpr (wpAny_Constant_int (hQ _ led' _ h' (tk' + 1) hP ⟨_, rfl⟩ hA'))
    | false => exact (if_neg (by decide)).mpr (wpAny_Constant_int (hQ _ led' _ h' (tk' + 1) hP ⟨_, rfl⟩ hA')))
theorem Ev.not {e : PySem.Expr} (h : Ev c l led e fun v led' => BoolV v fun b => P (.bool (!b)) led') : Ev c l led (.UnaryOp .Not e pos) P := fun s Q E hA hQ =>
  UnaryOp_ (h s _ E hA fun v led' u h' tk' hP hv hA' => by
    obtain ⟨b, rfl, hb⟩ := hP
    obtain rfl : u = .bool b := hv
    exact not_of (wpAny_truthy_bool (hQ _ led' _ h' tk' hb rfl hA')))
theorem Ev.or {e f : PySem.Expr} {rest : List PySem.Expr} (h : Ev c l led e fun v led' => BoolV v fun b => IfB b (P (.bool true) led') (Ev c l led' (.BoolOp .Or (f :: rest) pos) P)) : Ev c l led (.BoolOp .Or (e :: f :: rest) pos) P := fun s Q E hA hQ =>
  BoolOp_or (h s _ E hA fun v led' u h' tk' hP hv hA' => by
    obtain ⟨b, rfl, hb⟩ := hP
    obtain rfl : u = .bool b := hv
    refine wpAny_truthy_bool ?_
    cases b with
    | true => exact (if_pos rfl).mpr (hQ _ led' _ h' tk' (hb.1 rfl) rfl hA')
    | false => exact (if_neg (by decide)).mpr (hb.2 rfl _ _ E hA' fun v led3 u h3 tk3 hP3 i hA3 => hQ v led3 u h3 tk3 hP3 i hA3))
theorem Ev.and {e f : PySem.Expr} {rest : List PySem.Expr} (h : Ev c l led e fun v led' => BoolV v fun b => IfB b (Ev c l led' (.BoolOp .And (f :: rest) pos) P) (P (.bool false) led')) : Ev c l led (.BoolOp .And (e :: f :: rest) pos) P := fun s Q E hA hQ =>
  BoolOp_and (h s _ E hA fun v led' u h' tk' hP hv hA' => by
    obtain ⟨b, rfl, hb⟩ := hP
    obtain rfl : u = .bool b := hv
    refine wpAny_truthy_bool ?_
    cases b with
    | false => exact (if_neg (by decide)).mpr (hQ _ led' _ h' tk' (hb.2 rfl) rfl hA')
    | true => exact (if_pos rfl).mpr (hb.1 rfl _ _ E hA' fun v led3 u h3 tk3 hP3 i hA3 => hQ v led3 u h3 tk3 hP3 i hA3))
theorem Ev.bone {e : PySem.Expr} {op : BoolOp} (h : Ev c l led e P) : Ev c l led (.BoolOp op [e] pos) P := fun s Q E hA hQ => BoolOp_one (h s Q E hA hQ)
def TrW (c : Cx w S D) (l : Locs) (led : Led) (e : PySem.Expr) (P : Bool → Led → Prop) : Prop := ∀ whole, WpB c l led (isTrue e c.env whole) P
theorem Tr.bool {op : BoolOp} {es : List PySem.Expr} {P : Bool → Led → Prop} (h : TrW c l led (.BoolOp op es pos) P) : Tr c l led (.BoolOp op es pos) P := h _
theorem TrW.and {e : PySem.Expr} {rest : List PySem.Expr} {P : Bool → Led → Prop} (h : Tr c l led e fun b led' => IfB b (TrW c l led' (.BoolOp .And rest pos) P) (P false led')) : TrW c l led (.BoolOp .And (e :: rest) pos) P := fun whole s Q E hA hQ =>
  isTrue_and (h s _ E hA fun b led' h' tk' hP hA' => by
    cases b with
    | true => exact (if_pos rfl).mpr (hP.1 rfl whole _ _ E hA' fun b led3 h3 tk3 hP3 hA3 => hQ b led3 h3 tk3 hP3 hA3)
    | false => exact (if_neg (by decide)).mpr (hQ false led' h' tk' (hP.2 rfl) hA'))
theorem TrW.or {e : PySem.Expr} {rest : List PySem.Expr} {P : Bool → Led → Prop} (h : Tr c l led e fun b led' => IfB b (P true led') (TrW c l led' (.BoolOp .Or rest pos) P)) : TrW c l led (.BoolOp .Or (e :: rest) pos) P := fun whole s Q E hA hQ =>
  isTrue_or (h s _ E hA fun b led' h' tk' hP hA' => by
    cases b with
    | false => exact (if_neg (by decide)).mpr (hP.2 rfl whole _ _ E hA' fun b led3 h3 tk3 hP3 hA3 => hQ b led3 h3 tk3 hP3 hA3)
    | true => exact (if_pos rfl).mpr (hQ true led' h' tk' (hP.1 rfl) hA'))
theorem TrW.andNil {P : Bool → Led → Prop} (h : P true led) : TrW c l led (.BoolOp .And [] pos) P := fun whole s Q E hA hQ => isTrue_and_nil (hQ true led s.heap s.toks h hA)
theorem TrW.orNil {P : Bool → Led → Prop} (h : P false led) : TrW c l led (.BoolOp .Or [] pos) P := fun whole s Q E hA hQ => isTrue_or_nil (hQ false led s.heap s.toks h hA)
def WhS (J : Nat → Locs → Led → Prop) (n : Nat) : Out → Locs → Led → Prop := fun o l led => o = .next ∧ ∃ n', n' < n ∧ J n' l led
theorem WhS.intro {J : Nat → Locs → Led → Prop} {n n' : Nat} {l : Locs} {led : Led} (h : n' < n) (hJ : J n' l led) : WhS J n .next l led := ⟨rfl, n', h, hJ⟩
theorem Run.whiles {test : PySem.Expr} {body rest : List Stmt} (J : Nat → Locs → Led → Prop) (n₀ : Nat) (h0 : J n₀ l led)
    (turn : ∀ n l1 led1, J n l1 led1 → Tr c l1 led1 test fun b led2 => IfB b (Run c l1 led2 body (WhS J n)) (Run c l1 led2 rest R)) : Run c l led (.While test body [] pos :: rest) R := fun s Q E hE hA hQ => by
  obtain ⟨⟨m, F, hl⟩, N, nd⟩ := hA
  refine wpAny_execs_cons (While_inv (n₀ := n₀) (fun n m1 led1 => ∃ l1, (∀ x v, l1.lookup x = some v → ∃ u, m1 x = some u ∧ v.Is u) ∧ (led1.map (·.1)).Nodup ∧ J n l1 led1) F N ⟨l, hl, nd, h0⟩ (fun n m1 led1 h1 tk1 F1 N1 hJ => ?_) hE)
  obtain ⟨l1, hl1, nd1, hJ⟩ := hJ
  refine turn n l1 led1 hJ { s with heap := h1, toks := tk1 } _ E ⟨⟨m1, F1, hl1⟩, N1, nd1⟩ fun b led2 h2 tk2 hP hA2 => ?_
  cases b with
  | true =>
    refine (if_pos rfl).mpr (hP.1 rfl _ _ E hE hA2 fun o l3 led3 f h3 tk3 hW ho hA3 => ?_)
    obtain ⟨rfl, n', hn, hJ'⟩ := hW
    obtain rfl : f = .next := ho
    obtain ⟨⟨m3, F3, hl3⟩, N3, nd3⟩ := hA3
    exact WhileStep.intro F3 N3 hn ⟨l3, hl3, nd3, hJ'⟩
  | false => exact (if_neg (by decide)).mpr (hP.2 rfl _ _ E hE hA2 fun o l3 led3 f h3 tk3 hR ho hA3 => hQ _ _ _ _ h3 tk3 hR ho hA3)
end rulesX
abbrev flE (c p a z sf f d : Int) : Locs := [(Str.ofString "cf", .int c), (Str.ofString "pf", .int p), (Str.ofString "af", .int a), (Str.ofString "zf", .int z), (Str.ofString "sf", .int sf), (Str.ofString "of", .int f), (Str.ofString "df", .int d)]
abbrev rgE (nm kd : Str) (k n : Int) : Locs := [(Str.ofString "name", .str nm), (Str.ofString "kind", .str kd), (Str.ofString "number", .int k), (Str.ofString "size", .int n)]
abbrev stE (rl xl fx mx sg : Addr) (rip : Int) : Locs := [(Str.ofString "iset", .val .none), (Str.ofString "regs", .val (.ref rl)), (Str.ofString "xmm", .val (.ref xl)), (Str.ofString "flags", .val (.ref fx)), (Str.ofString "memory", .val (.ref mx)), (Str.ofString "rip", .int rip), (Str.ofString "begin", .int 0), (Str.ofString "segments", .val (.ref sg)), (Str.ofString "is_halted", .val (.bool false))]
abbrev opE (r : Addr) : Locs := [(Str.ofString "kind", .str (Str.ofString "reg")), (Str.ofString "register", .val (.ref r))]
abbrev relE (x : Int) : Locs := [(Str.ofString "kind", .str (Str.ofString "rel")), (Str.ofString "worth", .int x), (Str.ofString "name", .str (Str.ofString ""))]
abbrev mmE (x : Int) : Locs := [(Str.ofString "kind", .str (Str.ofString "mem")), (Str.ofString "base", .val .none), (Str.ofString "index", .val .none), (Str.ofString "scale", .int 1), (Str.ofString "worth", .int x), (Str.ofString "size", .int 8), (Str.ofString "segment", .str (Str.ofString "")), (Str.ofString "name", .str (Str.ofString ""))]
abbrev insE (x : Str) (tx : Addr) : Locs := [(Str.ofString "name", .str x), (Str.ofString "operands", .val (.ref tx)), (Str.ofString "prefix", .str (Str.ofString ""))]
abbrev meE (hd : Addr) : Locs := [(Str.ofString "held", .val (.ref hd))]
end Mine
namespace Mine
variable {w : World} {S : Scope} {D : Nat}
noncomputable def ForT (c : Cx w S D) (x : Str) (body rest : List Stmt) (R : Out → Locs → Led → Prop) (keep : Addr × Obj) : List AV → Locs → Led → Prop
  | [], l, led => Run c l led rest R
  | v :: vs, l, led => ∀ q : Addr × Obj, ∃ f : AV → Locs, PutL x l f ∧ Run c (f v) (q :: led) body fun o l' led' => match o with
    | .ret u => R (.ret u) l' led'
    | .next => ∃ led'', Rem q led' led'' ∧ keep ∈ led'' ∧ ForT c x body rest R keep vs l' led''
def ForS (c : Cx w S D) (x : Str) (body rest : List Stmt) (R : Out → Locs → Led → Prop) (keep q : Addr × Obj) (vs : List AV) : Out → Locs → Led → Prop := fun o l' led' => match o with
    | .ret u => R (.ret u) l' led'
    | .next => ∃ led'', Rem q led' led'' ∧ keep ∈ led'' ∧ ForT c x body rest R keep vs l' led''
section fors
variable {c : Cx w S D} {l : Locs} {led : Led} {P : AV → Led → Prop} {R : Out → Locs → Led → Prop} {x : Str} {pos px : Pos} {body rest : List Stmt} {keep q : Addr × Obj} {vs : List AV} {v : AV}
theorem ForT.nil (h : Run c l led rest R) : ForT c x body rest R keep [] l led := h
theorem ForT.cons {f : AV → Locs} (hf : PutL x l f) (h : ∀ q, Run c (f v) (q :: led) body (ForS c x body rest R keep q vs)) : ForT c x body rest R keep (v :: vs) l led := fun q => ⟨f, hf, h q⟩
theorem ForS.next {led'' : Led} (hr : Rem q led led'') (hk : keep ∈ led'') (h : ForT c x body rest R keep vs l led'') : ForS c x body rest R keep q vs .next l led := ⟨led'', hr, hk, h⟩
theorem ForS.ret (h : R (.ret v) l led) : ForS c x body rest R keep q vs (.ret v) l led := h
theorem forT_rest {s : Shared} {Q : Flow → Shared → Prop} {E : Value → Shared → Prop} {I : Addr} {tn : String} (hx : S.names.lookup x = some .local) (hE : PassesOwn (model PW w) c.A c.env E)
    (hQ : ∀ o l' led' f h' tk', R o l' led' → o.Is f → At c.g c.L h' l' led' → Q f { s with heap := h', toks := tk' }) :
    ∀ {vs : List AV} {us : List Value} {l : Locs} {led : Led} {m : Str → Option Value}, VIs vs us → (∀ x v, l.lookup x = some v → ∃ u, m x = some u ∧ v.Is u) → (led.map (·.1)).Nodup → (∀ p ∈ led, p.1 ≠ I) → ForT c x body rest R keep vs l led →
      ItemsRest PW w c.A E c.g c.env (.Name x px) body (fun f s' => match f with | .next => wpAny (model PW w) c.A (execs rest c.env) Q E s' | f => Q f s') s [(I, tn)] [keep] (us.map Itm.val) m led
  | [], [], l, led, m, _, hl, nd, hI, h => fun h' tk F N => h { s with heap := h', toks := tk } Q E hE ⟨⟨m, F, hl⟩, N, nd⟩ fun o l' led' f h2 tk2 hR ho hA => hQ o l' led' f h2 tk2 hR ho hA
  | v :: vs, u :: us, l, led, m, hv, hl, nd, hI, h => by
    refine ItemsRest.val fun h' tk F => AllObj.cons fun it _ => AllObj.nil fun N => ?_
    obtain ⟨f, hf, hb⟩ := h (I, it)
    refine assign_Name (storeX_L F N (fun h2 F2 N2 => ?_) c.hk hx)
    refine hb { s with heap := h2, toks := tk + 1 } _ E hE ⟨⟨_, F2, loc_put hf hv.1 hl⟩, N2, ?_⟩ fun o l' led' fl h3 tk3 hP ho hA => ?_
    · rw [List.map_cons, List.nodup_cons]
      exact ⟨fun hm => by obtain ⟨p, hp, e⟩ := List.mem_map.mp hm; exact hI p hp e, nd⟩
    · cases o with
      | ret r => obtain ⟨u', rfl, hr⟩ := ho; exact hQ _ _ _ _ h3 tk3 hP ⟨u', rfl, hr⟩ hA
      | next =>
        obtain rfl : fl = .next := ho
        obtain ⟨led'', hr, hk, hF⟩ := hP
        obtain ⟨⟨m3, F3, hl3⟩, N3, nd3⟩ := hA
        have pm := hr.perm
        have nd4 := (pm.map (·.1)).nodup_iff.mp nd3
        rw [List.map_cons, List.nodup_cons] at nd4
        have off : ∀ p ∈ led'', p.1 ≠ I := fun p hp e => nd4.1 (by have := List.mem_map_of_mem (f := (·.1)) hp; rwa [e] at this)
        refine ⟨h3, tk3, m3, led'', rfl, F3, fun p hp => N3 p (pm.mem_iff.mpr hp), fun p hp q hq => ?_, ⟨hk, trivial⟩, forT_rest hx hE hQ hv.2 hl3 nd4.2 off hF⟩
        rw [List.mem_singleton.mp hq]; exact off p hp
def ItsV (c : Cx w S D) (v : AV) (led : Led) (X : (Addr × Obj) → List AV → Prop) : Prop :=
  ∃ (a : Addr) (o : Obj) (us : List Value) (vs : List AV) (n : Nat), v = .ref a ∧ (a, o) ∈ led ∧ (o.cls = .type "list" ∨ o.cls = .type "tuple") ∧ o.data = .seq us.toArray n ∧ VIs vs us ∧ c.dp = c.dp ∧ X (a, o) vs
theorem Run.fors {iter : PySem.Expr} (hx : S.names.lookup x = some .local) (h : Ev c l led iter fun v led' => ItsV c v led' fun q vs => ForT c x body rest R q vs l led')
    (hf : ∀ v, foldedSetIterable iter c.env v = pure v) : Run c l led (.For (.Name x px) iter body [] pos :: rest) R := fun s Q E hE hA hQ => by
  obtain ⟨m0, F0, _⟩ := hA.fr
  refine wpAny_execs_cons (For_turns (h₀ := c.g) (env := c.env) F0 (h s _ E hA fun v led' u h1 tk1 hP hv hA1 => ?_) hf hE)
  obtain ⟨a, o, us, vs, n, rfl, hm, hc, hd, hvs, _, hF⟩ := hP
  obtain rfl : u = .ref a := hv
  obtain ⟨⟨m, F, hl⟩, N, nd⟩ := hA1
  rcases hc with hc | hc
  · exact iter_listTurns rfl F N hm hc hd fun I hI => (forT_rest (s := { s with heap := h1, toks := tk1 }) hx hE hQ hvs hl nd (fun p hp => Nat.ne_of_lt (hI p hp)) hF)
  · exact iter_tupTurns rfl F N hm hc hd fun I hI => (forT_rest (s := { s with heap := h1, toks := tk1 }) hx hE hQ hvs hl nd (fun p hp => Nat.ne_of_lt (hI p hp)) hF)
end fors
end Mine
namespace Mine
variable {w : World} {S : Scope} {D : Nat}
def IsSL (o : Obj) (ys : List Str) : Prop := ∃ vs n, o = W.listOf vs.toArray n ∧ StrsAre vs ys
def IsLs (o : Obj) (vs : List AV) : Prop := ∃ us n, o = W.listOf (List.toArray us) n ∧ VIs vs us
def IsTp (o : Obj) (vs : List AV) : Prop := ∃ us, o = ({ cls := .type "tuple", data := .seq (List.toArray us) } : Obj) ∧ VIs vs us
theorem VIs.strs : ∀ {ys : List Str} {us : List Value}, VIs (ys.map .str) us → StrsAre us ys
  | [], [], _ => .nil
  | _ :: _, _ :: _, ⟨⟨_, rfl⟩, h⟩ => .cons _ _ (VIs.strs h)
theorem VIs.len : ∀ {vs : List AV} {us : List Value}, VIs vs us → us.length = vs.length
  | [], [], _ => rfl
  | _ :: _, _ :: _, h => congrArg (· + 1) (VIs.len h.2)
theorem VIs.at : ∀ {vs : List AV} {us : List Value} {j : Nat} {v : AV}, VIs vs us → vs[j]? = some v → ∃ u, us[j]? = some u ∧ v.Is u
  | [], _, _, _, _, e => by simp at e
  | _ :: _, [], _, _, h, _ => False.elim h
  | _ :: _, u :: _, 0, _, h, e => ⟨u, rfl, Option.some.inj e ▸ h.1⟩
  | _ :: _, _ :: _, j + 1, _, h, e => VIs.at (j := j) h.2 e
theorem VIs.two {a b : AV} {us : List Value} (h : VIs [a, b] us) : ∃ u v, us = [u, v] ∧ a.Is u ∧ b.Is v := by
  cases us with
  | nil => exact False.elim h
  | cons u us =>
    cases us with
    | nil => exact False.elim h.2
    | cons v us =>
      cases us with
      | nil => exact ⟨u, v, rfl, h.1, h.2.1⟩
      | cons _ _ => exact False.elim h.2.2
theorem VIs.three {a b d : AV} {us : List Value} (h : VIs [a, b, d] us) : ∃ u v z, us = [u, v, z] ∧ a.Is u ∧ b.Is v ∧ d.Is z := by
  cases us with
  | nil => exact False.elim h
  | cons u us =>
    obtain ⟨v, z, rfl, h1, h2⟩ := VIs.two (a := b) (b := d) h.2
    exact ⟨u, v, z, rfl, h.1, h1, h2⟩
inductive StrL : List AV → List Str → Prop
  | nil : StrL [] []
  | cons {x vs ys} : StrL vs ys → StrL (.str x :: vs) (x :: ys)
theorem StrL.eq {vs : List AV} {ys : List Str} (h : StrL vs ys) : vs = ys.map .str := by
  induction h with
  | nil => rfl
  | cons _ ih => rw [ih]; rfl
section strR
variable {c : Cx w S D} {l : Locs} {led : Led} {P : AV → Led → Prop} {n x y : Str} {pos apos : Pos} {k : Nat} {a : Addr} {o : Obj} {vs : List AV} {ys : List Str} {id : String}
def StrV (v : AV) (X : Str → Prop) : Prop := ∃ x, v = .str x ∧ X x
theorem StrV.intro {X : Str → Prop} (h : X x) : StrV (.str x) X := ⟨x, rfl, h⟩
theorem Ev.smeth1 {b e : PySem.Expr} {args : List PySem.Expr}
    (gm : ∀ {M : Model} {A : Around} {E : Value → Shared → Prop} {s : Shared} {x : Str} {t : Tok} {pl : Sem Bool} {Q : Value × List Value → Shared → Prop}, Q (.builtin id, [.str x t]) s → wpAny M A (getMethod (.str x t) n pl) Q E s)
    (h : Ev c l led b fun y led1 => StrV y fun x => Evs c l led1 (e :: args) fun vs led2 => CallV c l (.builtin id) (.str x :: vs) led2 P)
    (hs : starEach (e :: args) c.env = (false, eval e c.env) :: starEach args c.env) (ha : ((backTo pos (starEach args c.env)).any fun x => x.1) = false)
    (hc : eval (.Call (.Attribute b n apos) (e :: args) [] pos) c.env = (do let ov ← eval b c.env; standAt apos.atName; let __x ← holding [ov] (getMethod ov n (plOf b c.env)); match __x with | (f, first) => callWith pos f first (backTo pos (starEach (e :: args) c.env)) [])) : Ev c l led (.Call (.Attribute b n apos) (e :: args) [] pos) P := fun s Q E hA hQ => by
  refine MethodCall_ (h s _ E hA fun y led1 u1 h1 tk1 hP hy hA1 => ?_) hc
  obtain ⟨x, rfl, hE⟩ := hP
  obtain ⟨t, rfl⟩ := hy
  refine gm (callWith_method1 (hE pos _ _ E hA1 fun vs led2 us h2 tk2 hC hvs hA2 => ?_) hs ha)
  exact hC (.str x t :: us) ⟨⟨t, rfl⟩, hvs⟩ _ _ E hA2 fun v led3 u h3 tk3 hP3 i hA3 => hQ v led3 u h3 tk3 hP3 i hA3
theorem Ev.smeth0 {b : PySem.Expr}
    (gm : ∀ {M : Model} {A : Around} {E : Value → Shared → Prop} {s : Shared} {x : Str} {t : Tok} {pl : Sem Bool} {Q : Value × List Value → Shared → Prop}, Q (.builtin id, [.str x t]) s → wpAny M A (getMethod (.str x t) n pl) Q E s)
    (h : Ev c l led b fun y led1 => StrV y fun x => CallV c l (.builtin id) [.str x] led1 P)
    (hc : eval (.Call (.Attribute b n apos) [] [] pos) c.env = (do let ov ← eval b c.env; standAt apos.atName; let __x ← holding [ov] (getMethod ov n (plOf b c.env)); match __x with | (f, first) => callWith pos f first (backTo pos (starEach [] c.env)) [])) : Ev c l led (.Call (.Attribute b n apos) [] [] pos) P := fun s Q E hA hQ => by
  refine MethodCall_ (h s _ E hA fun y led1 u1 h1 tk1 hP hy hA1 => ?_) hc
  obtain ⟨x, rfl, hE⟩ := hP
  obtain ⟨t, rfl⟩ := hy
  exact gm (callWith_method0 (hE [.str x t] ⟨⟨t, rfl⟩, trivial⟩ _ _ E hA1 fun v led3 u h3 tk3 hP3 i hA3 => hQ v led3 u h3 tk3 hP3 i hA3))
theorem Ev.msplit1 {b e : PySem.Expr} {args : List PySem.Expr} (h : Ev c l led b fun y led1 => StrV y fun x => Evs c l led1 (e :: args) fun vs led2 => CallV c l (.builtin "str.split") (.str x :: vs) led2 P)
    (hs : starEach (e :: args) c.env = (false, eval e c.env) :: starEach args c.env) (ha : ((backTo pos (starEach args c.env)).any fun x => x.1) = false)
    (hc : eval (.Call (.Attribute b (Str.ofString "split") apos) (e :: args) [] pos) c.env = (do let ov ← eval b c.env; standAt apos.atName; let __x ← holding [ov] (getMethod ov (Str.ofString "split") (plOf b c.env)); match __x with | (f, first) => callWith pos f first (backTo pos (starEach (e :: args) c.env)) [])) : Ev c l led (.Call (.Attribute b (Str.ofString "split") apos) (e :: args) [] pos) P := Ev.smeth1 (@GM.split) h hs ha hc
theorem Ev.mstart {b e : PySem.Expr} {args : List PySem.Expr} (h : Ev c l led b fun y led1 => StrV y fun x => Evs c l led1 (e :: args) fun vs led2 => CallV c l (.builtin "str.startswith") (.str x :: vs) led2 P)
    (hs : starEach (e :: args) c.env = (false, eval e c.env) :: starEach args c.env) (ha : ((backTo pos (starEach args c.env)).any fun x => x.1) = false)
    (hc : eval (.Call (.Attribute b (Str.ofString "startswith") apos) (e :: args) [] pos) c.env = (do let ov ← eval b c.env; standAt apos.atName; let __x ← holding [ov] (getMethod ov (Str.ofString "startswith") (plOf b c.env)); match __x with | (f, first) => callWith pos f first (backTo pos (starEach (e :: args) c.env)) [])) : Ev c l led (.Call (.Attribute b (Str.ofString "startswith") apos) (e :: args) [] pos) P := Ev.smeth1 (@GM.startswith) h hs ha hc
theorem Ev.msplit0 {b : PySem.Expr} (h : Ev c l led b fun y led1 => StrV y fun x => CallV c l (.builtin "str.split") [.str x] led1 P)
    (hc : eval (.Call (.Attribute b (Str.ofString "split") apos) [] [] pos) c.env = (do let ov ← eval b c.env; standAt apos.atName; let __x ← holding [ov] (getMethod ov (Str.ofString "split") (plOf b c.env)); match __x with | (f, first) => callWith pos f first (backTo pos (starEach [] c.env)) [])) : Ev c l led (.Call (.Attribute b (Str.ofString "split") apos) [] [] pos) P := Ev.smeth0 (@GM.split) h hc
theorem At.cons {g h' : Heap} {L D' : Addr} {m : Str → Option Value} {l : Locs} {led : Led} {o : Obj} (F : Fr g L h' m) (hl : ∀ x v, l.lookup x = some v → ∃ u, m x = some u ∧ v.Is u) (N : News g L h' ((D', o) :: led)) (hD : ∀ p ∈ led, p.1 < D') (nd : (led.map (·.1)).Nodup) : At g L h' l ((D', o) :: led) :=
  ⟨⟨m, F, hl⟩, N, by
    rw [List.map_cons, List.nodup_cons]
    exact ⟨fun hm => by obtain ⟨p, hp, e⟩ := List.mem_map.mp hm; exact absurd (hD p hp) (by have e' : p.1 = D' := e; rw [e']; exact Nat.lt_irrefl _), nd⟩⟩
theorem CallV.split1 (hy : (y.length == 0) = false) (hz : x.length + 2 ≤ sizeLine) (he : Txt.split x y = ys) (h : ∀ D' o, IsSL o ys → P (.ref D') ((D', o) :: led)) : CallV c l (.builtin "str.split") [.str x, .str y] led P := fun us hv s Q E hA hQ => by
  obtain ⟨_, _, rfl, ⟨t, rfl⟩, ⟨u, rfl⟩⟩ := VIs.two hv
  obtain ⟨⟨m, F, hl⟩, N, nd⟩ := hA
  exact KSpl.split1 F N hy (fun D' r h' tk e a F' N' hD => hQ _ _ _ h' tk (h D' _ ⟨_, _, rfl, by rw [e, he] at a; exact a⟩) rfl (At.cons F' hl N' hD nd)) hz
theorem CallV.split0 (hz : x.length + 2 ≤ sizeLine) (he : Txt.words x = ys) (h : ∀ D' o, IsSL o ys → P (.ref D') ((D', o) :: led)) : CallV c l (.builtin "str.split") [.str x] led P := fun us hv s Q E hA hQ => by
  match us, hv with
  | [_], ⟨⟨t, rfl⟩, _⟩ =>
  obtain ⟨⟨m, F, hl⟩, N, nd⟩ := hA
  exact KSpl.split0 F N (fun D' r h' tk e a F' N' hD => hQ _ _ _ h' tk (h D' _ ⟨_, _, rfl, by rw [e, he] at a; exact a⟩) rfl (At.cons F' hl N' hD nd)) hz
theorem CallV.startswith {b : Bool} (hb : Txt.startswith x y = b) (h : P (.bool b) led) : CallV c l (.builtin "str.startswith") [.str x, .str y] led P := fun us hv s Q E hA hQ => by
  obtain ⟨_, _, rfl, ⟨t, rfl⟩, ⟨u, rfl⟩⟩ := VIs.two hv
  exact SC.startswith (by rw [hb]; exact hQ _ _ _ s.heap s.toks h rfl hA)
theorem Cmp.inSL (ho : (a, o) ∈ led) (hi : IsSL o ys) (h : P (.bool (ys.any fun z => z == x)) led) : Cmp c l .In (.str x) (.ref a) led P := fun u v hu hv s Q E hA hQ => by
  obtain ⟨t, rfl⟩ := hu
  obtain rfl : v = .ref a := hv
  obtain ⟨vs, n, rfl, hs⟩ := hi
  exact in_list_strs (hA.nw.isList ho) hs (hQ _ _ _ s.heap s.toks h rfl hA)
theorem Cmp.notinSL (ho : (a, o) ∈ led) (hi : IsSL o ys) (h : P (.bool (!(ys.any fun z => z == x))) led) : Cmp c l .NotIn (.str x) (.ref a) led P := fun u v hu hv s Q E hA hQ => by
  obtain ⟨t, rfl⟩ := hu
  obtain rfl : v = .ref a := hv
  obtain ⟨vs, n, rfl, hs⟩ := hi
  exact notin_list_strs (hA.nw.isList ho) hs (hQ _ _ _ s.heap s.toks h rfl hA)
theorem Cmp.inTp (ho : (a, o) ∈ led) (hi : IsTp o vs) (hy : StrL vs ys) (h : P (.bool (ys.any fun z => z == x)) led) : Cmp c l .In (.str x) (.ref a) led P := fun u v hu hv s Q E hA hQ => by
  obtain ⟨t, rfl⟩ := hu
  obtain rfl : v = .ref a := hv
  obtain ⟨us, rfl, hs⟩ := hi
  exact in_tuple_strs (hA.nw.isTup ho) (VIs.strs (hy.eq ▸ hs)) (hQ _ _ _ s.heap s.toks h rfl hA)
def SlcV (i : AV) (x : Str) (X : Str → Prop) : Prop := ∃ (k : Int) (y : Str), i = .int k ∧ x.length ≤ sizeLine ∧ Txt.slice x (some k) Option.none = y ∧ X y
theorem SlcV.intro {X : Str → Prop} {k : Int} (hz : x.length ≤ sizeLine) (he : Txt.slice x (some k) Option.none = y) (h : X y) : SlcV (.int k) x X := ⟨k, y, rfl, hz, he, h⟩
def MkV (vs : List AV) (X : Prop) : Prop := Nat.ble vs.length 1000 = true ∧ X
theorem MkV.intro {X : Prop} (hz : Nat.ble vs.length 1000 = true) (h : X) : MkV vs X := ⟨hz, h⟩
theorem Ev.tuple {es : List PySem.Expr} (h : Evs c l led es fun vs led' => MkV vs (∀ D' o, IsTp o vs → P (.ref D') ((D', o) :: led'))) : Ev c l led (.Tuple es k pos) P := fun s Q E hA hQ =>
  Tuple_ (h pos s _ E hA fun vs led' us h1 tk1 hP hvs hA1 => by
    obtain ⟨⟨m, F, hl⟩, N, nd⟩ := hA1
    exact kup_newTuple F N (fun D' h' F' N' hD => hQ _ _ _ h' tk1 (hP.2 D' _ ⟨us, rfl, hvs⟩) rfl (At.cons F' hl N' hD nd)) (by rw [hvs.len]; exact Nat.le_trans (Nat.le_of_ble_eq_true hP.1) (Nat.le_of_ble_eq_true rfl)))
theorem Ev.list {es : List PySem.Expr} (h : Evs c l led es fun vs led' => MkV vs (∀ D' o, IsLs o vs → P (.ref D') ((D', o) :: led'))) : Ev c l led (.List es pos) P := fun s Q E hA hQ =>
  List_ (h pos s _ E hA fun vs led' us h1 tk1 hP hvs hA1 => by
    obtain ⟨⟨m, F, hl⟩, N, nd⟩ := hA1
    exact newList_K F N (fun D' h' F' N' hD => hQ _ _ _ h' tk1 (hP.2 D' _ ⟨us, 0, rfl, hvs⟩) rfl (At.cons F' hl N' hD nd)) (by rw [hvs.len]; exact Nat.le_trans (Nat.le_of_ble_eq_true hP.1) (Nat.le_of_ble_eq_true rfl)))
theorem ItsV.tp {X : (Addr × Obj) → List AV → Prop} (ho : (a, o) ∈ led) (hi : IsTp o vs) (h : X (a, o) vs) : ItsV c (.ref a) led X := by
  obtain ⟨us, rfl, hs⟩ := hi
  exact ⟨a, _, us, vs, 0, rfl, ho, .inr rfl, rfl, hs, rfl, h⟩
theorem ItsV.ls {X : (Addr × Obj) → List AV → Prop} (ho : (a, o) ∈ led) (hi : IsLs o vs) (h : X (a, o) vs) : ItsV c (.ref a) led X := by
  obtain ⟨us, n, rfl, hs⟩ := hi
  exact ⟨a, _, us, vs, n, rfl, ho, .inl rfl, rfl, hs, rfl, h⟩
theorem StrsAre.vis {us : List Value} {ys : List Str} (h : StrsAre us ys) : VIs (ys.map .str) us := by
  induction h with
  | nil => trivial
  | cons x t _ ih => exact ⟨⟨t, rfl⟩, ih⟩
theorem ItsV.sl {X : (Addr × Obj) → List AV → Prop} (ho : (a, o) ∈ led) (hi : IsSL o ys) (h : X (a, o) (ys.map .str)) : ItsV c (.ref a) led X := by
  obtain ⟨us, n, rfl, hs⟩ := hi
  exact ⟨a, _, us, _, n, rfl, ho, .inl rfl, rfl, StrsAre.vis hs, rfl, h⟩
theorem Ev.slice1 {b e : PySem.Expr} {sp : Pos} (h : Ev c l led b fun y led1 => StrV y fun x => Ev c l led1 e fun i led2 => SlcV i x fun y => P (.str y) led2)
    (hs : ∀ (x : Str) (t : Tok) (s : Shared), subscripted (.Slice (some e) Option.none Option.none sp) false (.str x t) (.ref s.heap.objs.size) = operate [.ref s.heap.objs.size, .str x t] (getItem (.str x t) (.ref s.heap.objs.size)))
    (hg : ∀ (x : Str) (t : Tok) (r : Value), letTemporaryGo b (.str x t) r = pure ()) : Ev c l led (.Subscript b (.Slice (some e) Option.none Option.none sp) pos) P := fun s Q E hA hQ => by
  refine Subscript_ (h s _ E hA fun y led1 u1 h1 tk1 hP hy hA1 => ?_)
  obtain ⟨x, rfl, hE⟩ := hP
  obtain ⟨t, rfl⟩ := hy
  refine wpAny_Slice (evalPart_some_step (hE _ _ E hA1 fun i led2 u2 h2 tk2 hP2 hi hA2 => ?_))
  obtain ⟨k, _, rfl, hz, rfl, hP3⟩ := hP2
  obtain ⟨t2, rfl⟩ := hi
  refine evalPart_none_step (evalPart_none_step ?_)
  obtain ⟨⟨m, F, hl⟩, N, nd⟩ := hA2
  exact slice_strN_sn (s := { s with heap := h2, toks := tk2 }) F N (fun h' t' tk' F' N' => hQ _ _ _ h' tk' hP3 ⟨t', rfl⟩ ⟨⟨m, F', hl⟩, N', nd⟩) (hs x t _) (hg x t) hz
end strR
end Mine
namespace Mine
variable {w : World} {S : Scope} {D : Nat}
def IsIL (o : Obj) (ns : List Int) : Prop := ∃ vs n, o = W.listOf (List.toArray vs) n ∧ IntsAre vs ns
theorem StrsAre.at_ : ∀ {us : List Value} {ys : List Str} {j : Nat}, StrsAre us ys → ∀ h : j < ys.length, ∃ t, us[j]? = some (.str (ys[j]'h) t)
  | _, _, j, .nil, h => absurd h (Nat.not_lt_zero _)
  | _, _, 0, .cons x t _, _ => ⟨t, rfl⟩
  | _, _, j + 1, .cons x t r, h => StrsAre.at_ (j := j) r (Nat.lt_of_succ_lt_succ h)
theorem StrsAre.len : ∀ {us : List Value} {ys : List Str}, StrsAre us ys → us.length = ys.length
  | _, _, .nil => rfl
  | _, _, .cons _ _ r => congrArg (· + 1) (Mine.StrsAre.len r)
theorem neS_of {x y : Str} (h : (x == y) = false) : x ≠ y := fun e => by rw [e, beq_self_eq_true] at h; cases h
section callR
variable {c : Cx w S D} {l : Locs} {led : Led} {P : AV → Led → Prop} {R : Out → Locs → Led → Prop} {n x y f : Str} {pos apos fpos : Pos} {k : Nat} {a : Addr} {o : Obj} {vs : List AV} {ys : List Str} {id : String}
theorem Ev.callB {e : PySem.Expr} {es : List PySem.Expr} (n : nsIn (K w.params) mainGlobals f = some Option.none) (hv : bootBuiltins f = some (.builtin id)) (hn : f ≠ "__name__") (hx : S.names.lookup f = some .globalImplicit) (hd : (f == ("__debug__" : Str)) = false)
    (h : Evs c l led (e :: es) fun vs led' => CallV c l (.builtin id) vs led' P)
    (hs : starEach (e :: es) c.env = (false, eval e c.env) :: starEach es c.env) (ha : ∀ pos, ((backTo pos (starEach es c.env)).any fun x => x.1) = false)
    (hc : eval (.Call (.Name f fpos) (e :: es) [] pos) c.env = (do let g ← eval (.Name f fpos) c.env; callWith pos g [] (backTo pos (starEach (e :: es) c.env)) (backToKw pos (keywordEach [] c.env)))) : Ev c l led (.Call (.Name f fpos) (e :: es) [] pos) P := fun s Q E hA hQ => by
  obtain ⟨m, F, hl⟩ := hA.fr
  refine Call_ (nameX_B F c.X (topRead_of c.T) n hv hn ?_ c.hk hx hd) hc
  exact PyProof.Rows.callWith_builtin1 (h pos s _ E hA fun vs led2 us h2 tk2 hC hvs hA2 => hC us hvs _ _ E hA2 fun v led3 u h3 tk3 hP3 i hA3 => hQ v led3 u h3 tk3 hP3 i hA3) hs (ha pos)
theorem Ev.callT {e : PySem.Expr} {es : List PySem.Expr} (n : nsIn (K w.params) mainGlobals f = some Option.none) (hv : bootBuiltins f = some (.type id)) (hn : f ≠ "__name__") (hx : S.names.lookup f = some .globalImplicit) (hd : (f == ("__debug__" : Str)) = false)
    (h : Evs c l led (e :: es) fun vs led' => CallV c l (.type id) vs led' P)
    (hs : starEach (e :: es) c.env = (false, eval e c.env) :: starEach es c.env) (ha : ∀ pos, ((backTo pos (starEach es c.env)).any fun x => x.1) = false)
    (hc : eval (.Call (.Name f fpos) (e :: es) [] pos) c.env = (do let g ← eval (.Name f fpos) c.env; callWith pos g [] (backTo pos (starEach (e :: es) c.env)) (backToKw pos (keywordEach [] c.env)))) : Ev c l led (.Call (.Name f fpos) (e :: es) [] pos) P := fun s Q E hA hQ => by
  obtain ⟨m, F, hl⟩ := hA.fr
  refine Call_ (nameX_B F c.X (topRead_of c.T) n hv hn ?_ c.hk hx hd) hc
  exact PyProof.Rows.callWith_type1 (h pos s _ E hA fun vs led2 us h2 tk2 hC hvs hA2 => hC us hvs _ _ E hA2 fun v led3 u h3 tk3 hP3 i hA3 => hQ v led3 u h3 tk3 hP3 i hA3) hs (ha pos)
theorem Ev.callF0 {fa : Addr} (n : nsIn (K w.params) mainGlobals f = some (some (.ref fa))) (hx : S.names.lookup f = some .globalImplicit) (hd : (f == ("__debug__" : Str)) = false) (hk : keepIn (K w.params) (.ref fa) = true)
    (h : CallV c l (.ref fa) [] led P)
    (hc : eval (.Call (.Name f fpos) [] [] pos) c.env = (do let g ← eval (.Name f fpos) c.env; callWith pos g [] (backTo pos (starEach [] c.env)) (backToKw pos (keywordEach [] c.env)))) : Ev c l led (.Call (.Name f fpos) [] [] pos) P := fun s Q E hA hQ => by
  obtain ⟨m, F, hl⟩ := hA.fr
  refine Call_ (nameX_K F c.X (topRead_of c.T) n ?_ c.hk hx hd) hc
  exact callWith_K0 (K := K w.params) (c.X.keeps F.keep) hk (h [] trivial _ _ E hA fun v led3 u h3 tk3 hP3 i hA3 => hQ v led3 u h3 tk3 hP3 i hA3)
theorem CallV.lenS {m : Nat} (hm : x.length = m) (hz : (m : Int) < 2 ^ 63) (h : P (.int m) led) : CallV c l (.builtin "len") [.str x] led P := fun us hv s Q E hA hQ => by
  match us, hv with
  | [_], ⟨⟨t, rfl⟩, _⟩ => subst hm; exact PyProof.Rows.len_str (by omega) (hQ _ _ _ s.heap _ h ⟨_, rfl⟩ hA)
theorem CallV.tupleLs (ho : (a, o) ∈ led) (hi : IsLs o vs) (hz : Nat.ble vs.length 1000 = true) (h : ∀ D' o', IsTp o' vs → P (.ref D') ((D', o') :: led)) : CallV c l (.type "tuple") [.ref a] led P := fun us hv s Q E hA hQ => by
  match us, hv with
  | [u], ⟨i, _⟩ =>
    obtain rfl : u = .ref a := i
    obtain ⟨us, n, rfl, hs⟩ := hi
    obtain ⟨⟨m, F, hl⟩, N, nd⟩ := hA
    exact kde_tupleOf F N (N.isList ho) (by rw [List.size_toArray, hs.len]; exact Nat.le_trans (Nat.le_of_ble_eq_true hz) (by decide)) rfl fun D' h' F' N' hD => hQ _ _ _ h' s.toks (h D' _ ⟨us, rfl, hs⟩) rfl (At.cons F' hl N' hD nd)
theorem CallV.listTp (ho : (a, o) ∈ led) (hi : IsTp o vs) (hz : Nat.ble vs.length 1000 = true) (h : ∀ D' o', IsLs o' vs → P (.ref D') ((D', o') :: led)) : CallV c l (.type "list") [.ref a] led P := fun us hv s Q E hA hQ => by
  match us, hv with
  | [u], ⟨i, _⟩ =>
    obtain rfl : u = .ref a := i
    obtain ⟨us, rfl, hs⟩ := hi
    obtain ⟨⟨m, F, hl⟩, N, nd⟩ := hA
    exact kup_listOfT F N ho rfl (fun D' cc h' F' N' hD => hQ _ _ _ h' s.toks (h D' _ ⟨us, cc, rfl, hs⟩) rfl (At.cons F' hl N' hD nd)) (by rw [hs.len]; exact Nat.le_trans (Nat.le_of_ble_eq_true hz) (Nat.le_of_ble_eq_true rfl))
def Sub (c : Cx w S D) (l : Locs) (b i : PySem.Expr) (x y : AV) (led : Led) (P : AV → Led → Prop) : Prop := ∀ u v, x.Is u → y.Is v → WpV c l led (subscriptTail b i u v) P
theorem Ev.sub {b i : PySem.Expr} (h : Ev c l led b fun x led1 => Ev c l led1 i fun y led2 => Sub c l b i x y led2 P) : Ev c l led (.Subscript b i pos) P := fun s Q E hA hQ =>
  Subscript_ (h s _ E hA fun x led1 u h1 tk1 hP hu hA1 => hP _ _ E hA1 fun y led2 v h2 tk2 hB hv hA2 => hB u v hu hv _ _ E hA2 fun v' led3 u' h3 tk3 hP3 i hA3 => hQ v' led3 u' h3 tk3 hP3 i hA3)
variable {b i : PySem.Expr} {kk : Int} {v : AV} {j : Nat} {ns : List Int}
theorem Sub.tp (ho : (a, o) ∈ led) (hi : IsTp o vs) (h0 : -2 ^ 63 ≤ kk) (h1 : kk < 2 ^ 63) (hj : seqIndex? kk vs.length = some j) (hv : vs[j]? = some v) (h : P v led) (hs : ∀ u, subscripted i false (.ref a) (.int kk u) = operate [.ref a, .int kk u] (getItem (.ref a) (.int kk u))) : Sub c l b i (.ref a) (.int kk) led P := fun u1 u2 hu hv' s Q E hA hQ => by
  obtain rfl : u1 = .ref a := hu
  obtain ⟨t, rfl⟩ := hv'
  obtain ⟨us, rfl, hvs⟩ := hi
  obtain ⟨u, hu, iu⟩ := hvs.at hv
  exact item_tupleT (hA.nw.isTup ho) h0 h1 (by rw [hvs.len]; exact hj) hu (hQ _ _ _ s.heap s.toks h iu hA) (hs t)
theorem Sub.il (ho : (a, o) ∈ led) (hi : IsIL o ns) (h0 : 0 ≤ kk) (h1 : kk < ns.length) (h2 : kk < 2 ^ 63) (h : P (.int (ns.getD kk.toNat 0)) led) (hs : ∀ u, subscripted i false (.ref a) (.int kk u) = operate [.ref a, .int kk u] (getItem (.ref a) (.int kk u))) : Sub c l b i (.ref a) (.int kk) led P := fun u1 u2 hu hv' s Q E hA hQ => by
  obtain rfl : u1 = .ref a := hu
  obtain ⟨t, rfl⟩ := hv'
  obtain ⟨us, n, rfl, hvs⟩ := hi
  exact ksa_sub hA.nw ho hvs h0 h1 h2 (fun t => hQ _ _ _ s.heap s.toks h ⟨t, rfl⟩ hA) (hs t)
theorem Sub.sl (ho : (a, o) ∈ led) (hi : IsSL o ys) (h0 : 0 ≤ kk) (h1 : kk < ys.length) (h2 : kk < 2 ^ 63) (h : P (.str (ys.getD kk.toNat Str.empty)) led) (hs : ∀ u, subscripted i false (.ref a) (.int kk u) = operate [.ref a, .int kk u] (getItem (.ref a) (.int kk u))) : Sub c l b i (.ref a) (.int kk) led P := fun u1 u2 hu hv' s Q E hA hQ => by
  obtain rfl : u1 = .ref a := hu
  obtain ⟨t, rfl⟩ := hv'
  obtain ⟨us, n, rfl, hvs⟩ := hi
  exact item_strsR (hA.nw.isList ho) hvs h0 h1 h2 (fun t => hQ _ _ _ s.heap s.toks h ⟨t, rfl⟩ hA) (hs t)
def SetI (v y z : AV) (led : Led) (X : Led → Prop) : Prop := ∃ (a : Addr) (o : Obj) (ns : List Int) (g : Obj → Led) (kk x : Int), v = .int x ∧ y = .ref a ∧ z = .int kk ∧ Put a o led g ∧ IsIL o ns ∧ 0 ≤ kk ∧ kk < ns.length ∧ kk < 2 ^ 63 ∧ ∀ o', IsIL o' (ns.set kk.toNat x) → X (g o')
theorem SetI.intro {X : Led → Prop} {g : Obj → Led} {x : Int} (h1 : Put a o led g) (h2 : IsIL o ns) (h3 : 0 ≤ kk) (h4 : kk < ns.length) (h5 : kk < 2 ^ 63) (h : ∀ o', IsIL o' (ns.set kk.toNat x) → X (g o')) : SetI (.int x) (.ref a) (.int kk) led X := ⟨a, o, ns, g, kk, x, rfl, rfl, rfl, h1, h2, h3, h4, h5, h⟩
def IdxA (y : AV) (led : Led) (X : (Addr × Obj) → List Str → Prop) : Prop := ∃ (a : Addr) (o : Obj) (ys : List Str), y = .ref a ∧ (a, o) ∈ led ∧ IsSL o ys ∧ X (a, o) ys
theorem IdxA.intro {X : (Addr × Obj) → List Str → Prop} (h1 : (a, o) ∈ led) (h2 : IsSL o ys) (h : X (a, o) ys) : IdxA (.ref a) led X := ⟨a, o, ys, rfl, h1, h2, h⟩
def IdxE (q : Addr × Obj) (ys : List Str) (vs : List AV) (led : Led) (X : Nat → Prop) : Prop := q ∈ led ∧ ∃ (x : Str) (k : Nat), vs = [.str x] ∧ (ys[k]? = some x ∧ (∀ j, j < k → ∀ z, ys[j]? = some z → (z == x) = false) ∧ k < 2 ^ 62) ∧ X k
theorem IdxE.intro {q : Addr × Obj} {X : Nat → Prop} (h1 : q ∈ led) (h2 : ys[k]? = some x ∧ (∀ j, j < k → ∀ z, ys[j]? = some z → (z == x) = false) ∧ k < 2 ^ 62) (h : X k) : IdxE q ys [.str x] led X := ⟨h1, x, k, rfl, h2, h⟩
theorem Run.setil {e : PySem.Expr} {rest : List Stmt} (h : Ev c l led e fun v led1 => Ev c l led1 b fun y led2 => Ev c l led2 i fun z led3 => SetI v y z led3 fun led4 => Run c l led4 rest R)
    (hs : swapsWith e (some (.Subscript b i apos)) pos.line c.env = pure false) : Run c l led (.Assign [.Subscript b i apos] e pos :: rest) R := fun s Q E hE hA hQ => by
  refine wpAny_execs_cons (wpAny_Assign_Subscript (h s _ E hA fun v led1 u1 h1 tk1 hP1 hv hA1 => hP1 _ _ E hA1 fun y led2 u2 h2 tk2 hP2 hy hA2 => hP2 _ _ E hA2 fun z led3 u3 h3 tk3 hP3 hz hA3 => ?_) hs)
  obtain ⟨a, o, ns, g, kk, x, rfl, rfl, rfl, hU, hi, k0, k1, k2, hR⟩ := hP3
  obtain ⟨t1, rfl⟩ := hv
  obtain rfl : u2 = .ref a := hy
  obtain ⟨t3, rfl⟩ := hz
  obtain ⟨us, n, rfl, hvs⟩ := hi
  obtain ⟨⟨m, F, hl⟩, N, nd⟩ := hA3
  exact ksa_set F N (hU.to_upd nd _) hvs k0 k1 k2 fun h4 F4 N4 hi4 _ _ => hR _ ⟨_, _, rfl, hi4⟩ _ _ _ hE ⟨⟨m, F4, hl⟩, N4, hU.nd nd _⟩ fun o l' led'' f h5 tk5 hR5 ho5 hA5 => hQ _ _ _ _ h5 tk5 hR5 ho5 hA5
theorem Ev.index {e : PySem.Expr} (h : Ev c l led b fun y led1 => IdxA y led1 fun q ys => Evs c l led1 [e] fun vs led2 => IdxE q ys vs led2 fun k => P (.int k) led2)
    (hs : starEach [e] c.env = (false, eval e c.env) :: starEach [] c.env) (ha : ((backTo pos (starEach [] c.env)).any fun x => x.1) = false)
    (hc : eval (.Call (.Attribute b (Str.ofString "index") apos) [e] [] pos) c.env = (do let ov ← eval b c.env; standAt apos.atName; let __x ← holding [ov] (getMethod ov (Str.ofString "index") (plOf b c.env)); match __x with | (f, first) => callWith pos f first (backTo pos (starEach [e] c.env)) [])) : Ev c l led (.Call (.Attribute b (Str.ofString "index") apos) [e] [] pos) P := fun s Q E hA hQ => by
  refine MethodCall_ (h s _ E hA fun y led1 u1 h1 tk1 hP hy hA1 => ?_) hc
  obtain ⟨a, o, ys, rfl, ho, hi, hE⟩ := hP
  obtain rfl : u1 = .ref a := hy
  obtain ⟨us, n, rfl, hsl⟩ := hi
  refine kf_method hA1.nw ho (id := "list.index") PySem.F.slot_list_index rfl (callWith_method1 (hE pos _ _ E hA1 fun vs led2 us2 h2 tk2 hC hvs hA2 => ?_) hs ha)
  obtain ⟨ho2, x, k, rfl, ⟨e1, e2, e3⟩, hP3⟩ := hC
  match us2, hvs with
  | [_], ⟨⟨t, rfl⟩, _⟩ =>
  have hk : k < ys.length := by
    rcases Nat.lt_or_ge k ys.length with q | q
    · exact q
    · rw [List.getElem?_eq_none q] at e1; cases e1
  have hg := (hA2.nw _ ho2).1
  have at_ : ∀ j (hj : j < ys.length), ∃ u, us[j]? = some (.str (ys[j]'hj) u) := fun j hj => StrsAre.at_ hsl hj
  have at2 : ∀ j (hj : j < us.toArray.size), ∃ (hj' : j < ys.length) (u : Tok), us.toArray[j]'hj = .str (ys[j]'hj') u := fun j hj => by
    have hj' : j < ys.length := by rw [← StrsAre.len hsl]; simpa using hj
    obtain ⟨u, e⟩ := at_ j hj'
    refine ⟨hj', u, ?_⟩
    have : us[j]? = some (us.toArray[j]'hj) := by simp
    rw [this] at e
    exact Option.some.inj e
  refine call_meets PySem.F.slot_list_index ⟨_, hg, rfl⟩ PySem.F.entry_list_index (PySem.F.args_list_index_2 _ _)
    (PySem.SeqAt.list_indexAt a us.toArray n Option.none #[] (.str x t) (isS x) k (by simp only [List.size_toArray]; rw [StrsAre.len hsl]; exact hk) (by omega) ?_ ?_) ⟨hg, fun y hy => ?_, hQ _ _ _ h2 _ hP3 ⟨_, rfl⟩ hA2⟩
  · obtain ⟨hj', u, e⟩ := at2 k (by simp only [List.size_toArray]; rw [StrsAre.len hsl]; exact hk)
    rw [e]
    rw [List.getElem?_eq_getElem hj'] at e1
    show (ys[k] == x) = true
    rw [Option.some.inj e1]; exact beq_self_eq_true _
  · intro j hj hlt
    obtain ⟨hj', u, e⟩ := at2 j hj
    rw [e]
    exact e2 j hlt _ (List.getElem?_eq_getElem hj')
  · obtain ⟨j, hj, rfl⟩ := Array.mem_iff_getElem.mp hy
    obtain ⟨hj', u, e⟩ := at2 j hj
    rw [e]
    exact (eqGives_str _ _ _ _).at _ _
end callR
end Mine
theorem Mine.rows3 : True := by
  (k_with "amRun" => ((with_reducible refine' Mine.Run.ret ?_)))
  (k_with "amRun" => ((with_reducible refine' Mine.Run.retN ?_)))
  (k_with "amRun" => ((with_reducible refine' Mine.Run.nil ?_)))
  (k_with "amRun" => ((with_reducible refine' Mine.Run.ifs ?_)))
  (k_with "amRun" => ((with_reducible refine' Mine.Run.exprs ?_ ?zhi ?zhs); (case zhi => kernel_rfl); (case zhs => kernel_rfl)))
  (k_with "amRun" => ((with_reducible refine' Mine.Run.assign ?zhx ?zhf ?_ ?zhs); (case zhx => kernel_rfl); (case zhf => k_extra "putl"); (case zhs => kernel_rfl)))
  (k_with "amX" => ((with_reducible refine' Mine.Seq.next ?_)))
  (k_with "amX" => ((with_reducible refine' Mine.Seq.ret ?_)))
  (k_with "amTr" => ((with_reducible refine' Mine.Tr.plain ?_ ?zhp); (case zhp => kernel_rfl)))
  (k_with "amTr" => ((with_reducible refine' Mine.Tr.not ?_)))
  (k_with "amTr" => ((with_reducible refine' Mine.Tr.cmp ?_ ?zhm); (case zhm => kernel_rfl)))
  (k_with "amEv" => ((with_reducible refine' Mine.Ev.ifx ?_)))
  (k_with "amEv" => ((with_reducible refine' Mine.Ev.cmp ?_ ?zhm); (case zhm => kernel_rfl)))
  (k_with "amEv" => ((with_reducible refine' Mine.Ev.bin ?_)))
  (k_with "amEv" => ((with_reducible refine' Mine.Ev.int ?_)))
  (k_with "amEv" => ((with_reducible refine' Mine.Ev.str ?_)))
  (k_with "amEv" => ((with_reducible refine' Mine.Ev.bool ?_)))
  (k_with "amEv" => ((with_reducible refine' Mine.Ev.none ?_)))
  (k_with "amEv" => ((with_reducible refine' Mine.Ev.gint ?ze ?zhx ?zhd ?_); (case ze => k_is); k_extra "c27"))
  (k_with "amEv" => ((with_reducible refine' Mine.Ev.name ?zhv ?zhx ?zhd ?_); (case zhv => k_extra "lk"); k_extra "c27"))
  (k_with "amEv" => ((with_reducible refine' Mine.Ev.callF ?zn ?zhx ?zhd ?zhk ?_ ?zhs ?zha ?zhc); (case zn => k_is); (case zhk => k_is); k_extra "c27"; k_extra "c52"))
  (k_with "amEvs" => ((with_reducible refine' Mine.Evs.nil ?_)))
  (k_with "amEvs" => ((with_reducible refine' Mine.Evs.cons ?_ ?zhs); (case zhs => kernel_rfl)))
  (k_with "am" => first | ((with_reducible show Mine.Ev _ _ _ _ _); k_extra "amEv") | ((with_reducible show Mine.Evs _ _ _ _ _); k_extra "amEvs") | ((with_reducible show Mine.CallV _ _ _ _ _ _); k_extra "amcall") | ((with_reducible show Mine.Run _ _ _ _ _); k_extra "amRun") | ((with_reducible show Mine.Tr _ _ _ _ _); k_extra "amTr") | ((with_reducible show Mine.TrW _ _ _ _ _); k_extra "amTrW") | ((with_reducible show Mine.IfB _ _ _); k_extra "amif") | ((with_reducible show Mine.Bin _ _ _ _ _ _ _); k_extra "ambin") | ((with_reducible show Mine.Cmp _ _ _ _ _ _ _); k_extra "amcmp") | k_extra "amX")
  (k_with "amif" => ((with_reducible refine' Mine.IfB.both ?_ ?_)) <;> intro _)
  (k_with "amif" => ((with_reducible refine' Mine.IfB.dec ?_ ?_)) <;> intro _)
  (k_with "amif" => ((with_reducible refine' Mine.IfB.bne ?_ ?_)) <;> intro _)
  (k_with "amif" => ((with_reducible refine' Mine.IfB.beq ?_ ?_)) <;> intro _)
  (k_with "amif" => ((with_reducible refine' Mine.IfB.decF ?zhp ?_); (case zhp => first | assumption | decide)))
  (k_with "amif" => ((with_reducible refine' Mine.IfB.decT ?zhp ?_); (case zhp => first | assumption | decide)))
  (k_with "amif" => ((with_reducible refine' Mine.IfB.neg ?zhp ?_); (case zhp => first | assumption | decide)))
  (k_with "amif" => ((with_reducible refine' Mine.IfB.pos ?zhp ?_); (case zhp => first | assumption | decide)))
  (k_with "amif" => ((with_reducible refine' Mine.IfB.not ?_)))
  (k_with "amif" => ((with_reducible refine' Mine.IfB.ff ?_)))
  (k_with "amif" => ((with_reducible refine' Mine.IfB.tt ?_)))
  (k_with "amcmp" => (with_reducible first | (refine' Mine.Cmp.eqI (Mine.BoolV.intro ?_)) | (refine' Mine.Cmp.eqI ?_)))
  (k_with "amcmp" => (with_reducible first | (refine' Mine.Cmp.neI (Mine.BoolV.intro ?_)) | (refine' Mine.Cmp.neI ?_)))
  (k_with "amcmp" => (with_reducible first | (refine' Mine.Cmp.ltI (Mine.BoolV.intro ?_)) | (refine' Mine.Cmp.ltI ?_)))
  (k_with "amcmp" => (with_reducible first | (refine' Mine.Cmp.leI (Mine.BoolV.intro ?_)) | (refine' Mine.Cmp.leI ?_)))
  (k_with "amcmp" => (with_reducible first | (refine' Mine.Cmp.gtI (Mine.BoolV.intro ?_)) | (refine' Mine.Cmp.gtI ?_)))
  (k_with "amcmp" => (with_reducible first | (refine' Mine.Cmp.geI (Mine.BoolV.intro ?_)) | (refine' Mine.Cmp.geI ?_)))
  (k_with "ambin" => ((with_reducible refine' Mine.Bin.add ?_)))
  (k_with "ambin" => ((with_reducible refine' Mine.Bin.sub ?_)))
  (k_with "ambin" => ((with_reducible refine' Mine.Bin.band ?_)))
  (k_with "ambin" => ((with_reducible refine' Mine.Bin.shr ?zp ?_); (case zp => k_extra "bnd")))
  (k_with "ambin" => ((with_reducible refine' Mine.Bin.shl ?zp ?zq ?_); (case zp => k_extra "bnd"); (case zq => k_extra "bits")))
  (k_with "ambin" => ((with_reducible refine' Mine.Bin.mod ?zp ?_); (case zp => first | assumption | decide)))
  (k_with "bnd" => first | with_reducible assumption | omega | decide)
  (k_with "bits" => (refine' kbm_shl (m := 64) ?za ?zb ?zc; (case za => first | decide | exact intBits_le_64 (by omega)); (case zb => omega); (case zc => decide)))
  (k_with "take" => first | exact Mine.Takes.nil | exact Mine.Takes.all | (refine' Mine.Takes.cons ?za ?zb; (case za => k_extra "rem"); (case zb => k_extra "take")))
  (k_with "rem" => first | exact Mine.Rem.head | (refine' Mine.Rem.tail ?za; (case za => k_extra "rem")))
  (k_with "dvs" => first | exact trivial | exact ⟨rfl, trivial⟩ | exact ⟨⟨_, rfl⟩, trivial⟩ | exact ⟨⟨_, rfl⟩, ⟨_, rfl⟩, trivial⟩ | exact ⟨rfl, rfl, trivial⟩)
  (k_with "put" => first | exact Mine.Put.head | (refine' Mine.Put.tail ?za; (case za => k_extra "put")))
  (k_with "enter" => ((case zho => k_is); (case zhcd => k_is); (case zhdv => k_extra "dvs"); (case zhb => first | exact fun _ _ => BindsTo.of_eq rfl | exact fun _ => fun _ _ => BindsTo.of_eq rfl | exact fun _ _ => fun _ _ => BindsTo.of_eq rfl | exact fun _ _ _ => fun _ _ => BindsTo.of_eq rfl | exact fun _ _ _ _ => fun _ _ => BindsTo.of_eq rfl | exact fun _ _ _ _ _ => fun _ _ => BindsTo.of_eq rfl | exact fun _ => fun _ hX => binds_K hX rfl (by k_is) rfl rfl rfl | exact fun _ _ => fun _ hX => binds_K hX rfl (by k_is) rfl rfl rfl | exact fun _ _ _ => fun _ hX => binds_K hX rfl (by k_is) rfl rfl rfl | exact fun _ _ _ _ => fun _ hX => binds_K hX rfl (by k_is) rfl rfl rfl | exact fun _ _ _ _ _ => fun _ hX => binds_K hX rfl (by k_is) rfl rfl rfl | exact fun _ _ _ _ _ _ => fun _ hX => binds_K hX rfl (by k_is) rfl rfl rfl); (case zhloc => decide +kernel); (case zhco => kernel_rfl); (case zhge => kernel_rfl); (case zhki => kernel_rfl); (case zhcell => decide +kernel); (case zhD => decide); intro c; dsimp only [List.zip, List.zipWith, List.reverse, List.reverseAux, List.append, HAppend.hAppend, Append.append]))
  (k_with "enterN" => (refine' Mine.CallsN.of_body _ ?zho ?zhcd ?zhdv ?zhb ?zhloc ?zhco ?zhge ?zhki ?zhcell ?zhD ?_; k_extra "enter"))
  (k_with "amRun" => ((with_reducible refine' Mine.Run.setattr ?_ ?zhs); (case zhs => kernel_rfl)))
  (k_with "amX" => ((with_reducible refine' Mine.SetA.intro ?zh1 ?zh3 ?zh2 ?zk1 ?zk2 ?zk3 ?zk4 ?zhs ?zhz ?_); (case zh1 => k_mem); (case zh3 => k_extra "put"); (case zh2 => k_extra "dict"); k_extra "c55"; (case zhs => k_extra "sete"); (case zhz => kernel_rfl); intro o' ho'))
  (k_with "putl" => first | k_extra "putf" | with_reducible exact Mine.PutL.new)
  (k_with "putf" => with_reducible first | exact Mine.PutL.hd | (refine' Mine.PutL.tl ?za ?zb; (case zb => k_extra "putf"); (case za => kernel_rfl)))
  (k_with "sete" => with_reducible first | exact Mine.SetE.hd | (refine' Mine.SetE.tl ?za ?zb; (case za => kernel_rfl); (case zb => k_extra "sete")) | exact Mine.SetE.nil)
  (k_with "dict" => with_reducible first | assumption | exact Mine.IsDict.nil)
  (k_with "amEv" => ((with_reducible refine' Mine.Ev.attr ?_ ?zhs); (case zhs => kernel_rfl)))
  (k_with "amX" => ((with_reducible refine' Mine.GetA.own ?zha ?zhd ?zho ?zhv ?zk1 ?zk2 ?zk3 ?zk4 ?zhnd ?_); (case zha => k_mem); (case zhd => k_mem); (case zho => k_extra "dict"); (case zhv => k_extra "lk"); k_extra "c55"; (case zhnd => exact rfl)))
  (k_with "amEv" => ((with_reducible refine' Mine.Ev.meth1 ?_ ?zhs ?zha ?zhc); k_extra "c23"))
  (k_with "amEv" => ((with_reducible refine' Mine.Ev.meth0 ?_ ?zhc); (case zhc => kernel_rfl)))
  (k_with "amEv" => ((with_reducible refine' Mine.Ev.clsf ?zg ?zhx ?zhd ?zk1 ?zk2 ?zk3 ?zk4 ?zk5 ?_ ?zhs ?zha ?zhc); (case zg => k_is); k_extra "c27"; k_extra "c55"; (case zk5 => k_is); k_extra "c23"))
  (k_with "amX" => ((with_reducible refine' Mine.MethN.intro ?zh1 ?zh2 ?zh3 ?zh4 ?zk1 ?zk2 ?zk3 ?zk4 ?_); (case zh1 => k_mem); (case zh2 => k_mem); (case zh3 => k_extra "dict"); (case zh4 => kernel_rfl); k_extra "c55"))
  (k_with "amRun" => ((with_reducible refine' Mine.Run.assign2 ?zhf ?zhg ?zhx ?zhy ?_ ?zhs ?zhn); k_extra "c16"))
  (k_with "amX" => ((with_reducible refine' Mine.TwoV.intro ?_)))
  (k_with "amEv" => ((with_reducible refine' Mine.Ev.ifi ?_)))
  (k_with "amEv" => ((with_reducible refine' Mine.Ev.not ?_)))
  (k_with "amEv" => ((with_reducible refine' Mine.Ev.or ?_)))
  (k_with "amEv" => ((with_reducible refine' Mine.Ev.and ?_)))
  (k_with "amEv" => ((with_reducible refine' Mine.Ev.bone ?_)))
  (k_with "amTr" => ((with_reducible refine' Mine.Tr.bool ?_)))
  (k_with "amTrW" => ((with_reducible refine' Mine.TrW.andNil ?_)))
  (k_with "amTrW" => ((with_reducible refine' Mine.TrW.orNil ?_)))
  (k_with "amTrW" => ((with_reducible refine' Mine.TrW.and ?_)))
  (k_with "amTrW" => ((with_reducible refine' Mine.TrW.or ?_)))
  (k_with "amX" => ((with_reducible refine' Mine.BoolV.intro ?_)))
  (k_with "ambin" => ((with_reducible refine' Mine.Bin.xor ?_)))
  (k_with "ambin" => ((with_reducible refine' Mine.Bin.bor ?_)))
  (k_with "ambin" => ((with_reducible refine' Mine.Bin.adds ?zp ?_); (case zp => k_extra "strlen")))
  (k_with "ambin" => ((with_reducible refine' Mine.Bin.mul ?zp ?_); (case zp => k_extra "mulok")))
  (k_with "ambin" => ((with_reducible refine' Mine.Bin.pow ?zp ?zq ?zr ?_); (case zp => k_extra "bnd"); (case zq => k_extra "bnd"); (case zr => first | decide | omega)))
  (k_with "ambin" => ((with_reducible refine' Mine.Bin.fdiv ?zp ?zq ?_); (case zp => k_extra "nz"); (case zq => k_extra "nopy")))
  (k_with "amcmp" => (with_reducible first | (refine' Mine.Cmp.eqS (Mine.BoolV.intro ?_)) | (refine' Mine.Cmp.eqS ?_)))
  (k_with "amcmp" => (with_reducible first | (refine' Mine.Cmp.neS (Mine.BoolV.intro ?_)) | (refine' Mine.Cmp.neS ?_)))
  trivial
namespace Mine
variable {w : World}
theorem a_mask (n : Int) (h0 : 0 ≤ n) (h1 : n ≤ 64) {P : AV → Led → Prop} (h : P (.int (2 ^ n.toNat - 1)) []) : CallsN w 80 [.int n] [] 1 P := by
  refine' CallsN.of_body (ns := [Str.ofString "size"]) (ds := []) (dvs := []) 0 ?zho ?zhcd ?zhdv ?zhb ?zhloc ?zhco ?zhge ?zhki ?zhcell ?zhD ?_
  k_extra "enter"
  repeat' (first | k_extra "am" | fail "end")
  all_goals exact FinN.ret0 (by rw [Int.one_mul]; exact h) Takes.nil
end Mine
theorem Mine.rows3_11438 : True := by
  (k_with "amcall" => (refine' Mine.CallV.n0 (Mine.a_mask _ ?zp0 ?zp1 (Mine.Nw0.intro ?_)) ?zhd ?zhT; k_extra "c49"))
  trivial
namespace Mine
variable {w : World}
theorem a_wrap (x n : Int) (h0 : 0 ≤ n) (h1 : n ≤ 64) {P : AV → Led → Prop} (h : P (.int (x % 2 ^ n.toNat)) []) : CallsN w 87 [.int x, .int n] [] 2 P := by
  refine' CallsN.of_body (ns := [Str.ofString "worth", Str.ofString "size"]) (ds := []) (dvs := []) 1 ?zho ?zhcd ?zhdv ?zhb ?zhloc ?zhco ?zhge ?zhki ?zhcell ?zhD ?_
  k_extra "enter"
  repeat' (first | k_extra "am" | fail "end")
  all_goals exact FinN.ret0 (by rw [kbt_mask]; exact h) Takes.nil
end Mine
theorem Mine.rows3_12177 : True := by
  (k_with "amcall" => (refine' Mine.CallV.n0 (Mine.a_wrap _ _ ?zp0 ?zp1 (Mine.Nw0.intro ?_)) ?zhd ?zhT; k_extra "c49"))
  trivial
namespace Mine
variable {w : World}
theorem a_bit (x n : Int) (h0 : 0 ≤ n) (h1 : n ≤ 64) {P : AV → Led → Prop} (h : P (.int (x / 2 ^ n.toNat % 2)) []) : CallsN w 108 [.int x, .int n] [] 1 P := by
  refine' CallsN.of_body (ns := [Str.ofString "worth", Str.ofString "n"]) (ds := []) (dvs := []) 0 ?zho ?zhcd ?zhdv ?zhb ?zhloc ?zhco ?zhge ?zhki ?zhcell ?zhD ?_
  k_extra "enter"
  repeat' (first | k_extra "am" | fail "end")
  all_goals exact FinN.ret0 (by rw [and1, fdiv2]; exact h) Takes.nil
end Mine
theorem Mine.rows3_12922 : True := by
  (k_with "amcall" => (refine' Mine.CallV.n0 (Mine.a_bit _ _ ?zp0 ?zp1 (Mine.Nw0.intro ?_)) ?zhd ?zhT; k_extra "c49"))
  trivial
namespace Mine
variable {w : World}
theorem a_signed (x n : Int) (h0 : 1 ≤ n) (h1 : n ≤ 64) {P : AV → Led → Prop} (h : P (.int (sg x n.toNat)) []) : CallsN w 94 [.int x, .int n] [] 3 P := by
  refine' CallsN.of_body (ns := [Str.ofString "worth", Str.ofString "size"]) (ds := []) (dvs := []) 2 ?zho ?zhcd ?zhdv ?zhb ?zhloc ?zhco ?zhge ?zhki ?zhcell ?zhD ?_
  k_extra "enter"
  repeat' (first | k_extra "am" | fail "end")
  · exact FinN.ret0 (by unfold sg at h; rw [if_neg (sg_top h0 (by assumption))] at h; rwa [Int.one_mul]) Takes.nil
  · exact FinN.ret0 (by unfold sg at h; rwa [if_pos (sg_low h0 (by assumption))] at h) Takes.nil
end Mine
theorem Mine.rows3_13807 : True := by
  (k_with "amcall" => (refine' Mine.CallV.n0 (Mine.a_signed _ _ ?zp0 ?zp1 (Mine.Nw0.intro ?_)) ?zhd ?zhT; k_extra "c49"))
  trivial
namespace Mine
variable {w : World}
theorem a_extended (x n v : Int) (h0 : 1 ≤ n) (h1 : n ≤ 64) (h2 : 0 ≤ v) (h3 : v ≤ 64) {P : AV → Led → Prop} (h : P (.int (sg x n.toNat % 2 ^ v.toNat)) []) : CallsN w 101 [.int x, .int n, .int v] [] 4 P := by
  refine' CallsN.of_body (ns := [Str.ofString "worth", Str.ofString "size", Str.ofString "wide"]) (ds := []) (dvs := []) 3 ?zho ?zhcd ?zhdv ?zhb ?zhloc ?zhco ?zhge ?zhki ?zhcell ?zhD ?_
  k_extra "enter"
  repeat' (first | k_extra "am" | fail "end")
  all_goals exact FinN.ret0 h Takes.nil
end Mine
theorem Mine.rows3_14598 : True := by
  (k_with "amcall" => (refine' Mine.CallV.n0 (Mine.a_extended _ _ _ ?zp0 ?zp1 ?zp2 ?zp3 (Mine.Nw0.intro ?_)) ?zhd ?zhT; k_extra "c49"; k_extra "c20"))
  trivial
namespace Mine
variable {w : World}
def onesJ2 (x : Int) (n : Nat) (l : Locs) (led : Led) : Prop := led = [] ∧ ∃ r c : Int, l = [(Str.ofString "count", .int c), (Str.ofString "rest", .int r), (Str.ofString "size", .int 8), (Str.ofString "worth", .int x)] ∧ 0 ≤ r ∧ r < 256 ∧ n = r.toNat ∧ c + popc r = popc (x % 256)
end Mine
namespace Mine
variable {w : World}
theorem cast_b {P : AV → Led → Prop} {x y : Bool} (e : y = x) (h : P (.bool x) []) : P (.bool y) [] := e ▸ h
end Mine
namespace Mine
variable {w : World}
theorem a_ones (x : Int) {P : AV → Led → Prop} (h : P (.int (popc (x % 256))) []) : CallsN w 115 [.int x, .int 8] [] 3 P := by
  refine' CallsN.of_body (ns := [Str.ofString "worth", Str.ofString "size"]) (ds := []) (dvs := []) 2 ?zho ?zhcd ?zhdv ?zhb ?zhloc ?zhco ?zhge ?zhki ?zhcell ?zhD ?_
  k_extra "enter"
  repeat' (first | k_extra "am" | fail "end")
  have h0 : 0 ≤ x % 2 ^ (8 : Int).toNat := Int.emod_nonneg _ (by decide)
  have h1 : x % 2 ^ (8 : Int).toNat < 256 := Int.emod_lt_of_pos _ (by decide)
  refine Run.whiles (onesJ2 x) (x % 2 ^ (8 : Int).toNat).toNat ⟨rfl, x % 2 ^ (8 : Int).toNat, 0, ?_, h0, h1, rfl, by rw [Int.zero_add]; rfl⟩ ?_
  · rfl
  rintro n l1 led1 ⟨rfl, r, cc, rfl, h2, h3, h4, h5⟩
  repeat' (first | k_extra "am" | fail "end")
  · obtain ⟨q1, q2, q3⟩ := pop_step (r := r) (by assumption) h3
    exact WhS.intro (n' := (Builtin.bitAnd r (r - 1)).toNat) (by omega) ⟨rfl, Builtin.bitAnd r (r - 1), cc + 1, rfl, q2, by omega, rfl, by omega⟩
  · have hr : ¬ 0 < r := by assumption
    obtain rfl : r = 0 := by omega
    refine FinN.ret0 ?_ Takes.nil
    have e : popc 0 = 0 := by decide
    rw [e, Int.add_zero] at h5
    rwa [h5]
end Mine
theorem Mine.rowsM6_1 : True := by
  (k_with "amcall" => ((with_reducible refine' Mine.CallV.n0 (Mine.a_ones _ (Mine.Nw0.intro ?_)) ?zhd ?zhT); k_extra "c9"))
  trivial
namespace Mine
variable {w : World}
theorem a_parity (x : Int) {P : AV → Led → Prop} (h : P (.int (1 - popc (x % 256) % 2)) []) : CallsN w 122 [.int x] [] 4 P := by
  refine' CallsN.of_body (ns := [Str.ofString "worth"]) (ds := []) (dvs := []) 3 ?zho ?zhcd ?zhdv ?zhb ?zhloc ?zhco ?zhge ?zhki ?zhcell ?zhD ?_
  k_extra "enter"
  repeat' (first | k_extra "am" | fail "end")
  exact FinN.ret0 (by rw [Int.fmod_eq_emod_of_nonneg _ (by decide)]; exact h) Takes.nil
end Mine
theorem Mine.rowsM6_2 : True := by
  (k_with "amcall" => ((with_reducible refine' Mine.CallV.n0 (Mine.a_parity _ (Mine.Nw0.intro ?_)) ?zhd ?zhT); k_extra "c9"))
  trivial
namespace Mine
variable {w : World}
theorem a_szp (fx fd : Addr) (o : Obj) (c p a z sf f d r n : Int) (ho : IsDict w o (flE c p a z sf f d)) (h0 : 1 ≤ n) (h1 : n ≤ 64) {P : AV → Obj → Prop} (h : ∀ o', IsDict w o' (flE c (1 - popc (r % 2 ^ n.toNat % 256) % 2) a (if r % 2 ^ n.toNat = 0 then 1 else 0) (r % 2 ^ n.toNat / 2 ^ (n - 1).toNat % 2) f d) → P (.int (r % 2 ^ n.toNat)) o') : CallsT w 234 [.ref fx, .int r, .int n] [(fx, instObj 202 fd), (fd, o)] fd 5 P := by
  refine' CallsT.of_body (ns := [Str.ofString "flags", Str.ofString "result", Str.ofString "size"]) (ds := []) (dvs := []) 4 ?zhU ?zho ?zhcd ?zhdv ?zhb ?zhloc ?zhco ?zhge ?zhki ?zhcell ?zhD ?_
  (case zhU => k_extra "put")
  k_extra "enter"
  repeat' (first | k_extra "am" | fail "end")
  all_goals (refine FinT.ret (h _ ?_) Takes.all; simp only [beq_iff_eq] at *; assumption)
end Mine
theorem Mine.rowsM6_3 : True := by
  (k_with "amcall" => ((with_reducible refine' Mine.CallV.t (Mine.a_szp _ _ _ _ _ _ _ _ _ _ _ _ ?zp0 ?zp1 ?zp2 (fun o' ho' => ?_)) ?zhd ?zhT ?zhU); k_extra "c11"; k_extra "c22"; k_extra "c38"))
  trivial
namespace Mine
variable {w : World}
theorem a_sub (fx fd : Addr) (o : Obj) (c p a z sf f d x y n : Int) (ho : IsDict w o (flE c p a z sf f d)) (h0 : 4 ≤ n) (h1 : n ≤ 64) {P : AV → Obj → Prop} (h : ∀ o' af, IsDict w o' (flE (if x % 2 ^ n.toNat - y % 2 ^ n.toNat < 0 then 1 else 0) (1 - popc ((x % 2 ^ n.toNat - y % 2 ^ n.toNat) % 2 ^ n.toNat % 256) % 2) af (if (x % 2 ^ n.toNat - y % 2 ^ n.toNat) % 2 ^ n.toNat = 0 then 1 else 0) ((x % 2 ^ n.toNat - y % 2 ^ n.toNat) % 2 ^ n.toNat / 2 ^ (n - 1).toNat % 2) (Builtin.bitAnd (Builtin.bitXor (x % 2 ^ n.toNat) (y % 2 ^ n.toNat)) (Builtin.bitXor (x % 2 ^ n.toNat) ((x % 2 ^ n.toNat - y % 2 ^ n.toNat) % 2 ^ n.toNat)) / 2 ^ (n - 1).toNat % 2) d) → P (.int ((x % 2 ^ n.toNat - y % 2 ^ n.toNat) % 2 ^ n.toNat)) o') : CallsT w 248 [.ref fx, .int x, .int y, .int 0, .int n] [(fx, instObj 202 fd), (fd, o)] fd 6 P := by
  refine' CallsT.of_body (ns := [Str.ofString "flags", Str.ofString "a", Str.ofString "b", Str.ofString "borrow", Str.ofString "size"]) (ds := []) (dvs := []) 5 ?zhU ?zho ?zhcd ?zhdv ?zhb ?zhloc ?zhco ?zhge ?zhki ?zhcell ?zhD ?_
  (case zhU => k_extra "put")
  k_extra "enter"
  repeat' (first | k_extra "am" | fail "end")
  all_goals (simp only [Int.sub_zero, decide_eq_true_eq] at *; exact FinT.ret (h _ _ (by assumption)) Takes.all)
end Mine
theorem Mine.rowsM6_4 : True := by
  (k_with "amcall" => ((with_reducible refine' Mine.CallV.t (Mine.a_sub _ _ _ _ _ _ _ _ _ _ _ _ _ ?zp0 ?zp1 ?zp2 (fun o' af' ho' => ?_)) ?zhd ?zhT ?zhU); k_extra "c11"; k_extra "c22"; k_extra "c38"))
  trivial
namespace Mine
variable {w : World}
theorem a_holdsN (fx fd : Addr) (o : Obj) (c p a z sf f d k : Int) (ho : IsDict w o (flE c p a z sf f d)) (h0 : 0 ≤ k) (h1 : k < 16) {P : AV → Led → Prop} (h : P (.bool (hn c p z sf f k)) []) : CallsN w 220 [.ref fx, .int k] [(fx, instObj 202 fd), (fd, o)] 2 P := by
  refine' CallsN.of_body (ns := [Str.ofString "flags", Str.ofString "number"]) (ds := []) (dvs := []) 1 ?zho ?zhcd ?zhdv ?zhb ?zhloc ?zhco ?zhge ?zhki ?zhcell ?zhD ?_
  k_extra "enter"
  repeat' (first | k_extra "am" | fail "end")
  all_goals (have e1 : k.fdiv (2 ^ Int.toNat 1) = k / 2 := fdiv2 k 1)
  all_goals (refine FinN.ret0 (cast_b ?_ h) Takes.all)
  all_goals (clear h)
  all_goals (simp only [e1, and1] at *)
  all_goals (simp [hn, hnT, *])
end Mine
theorem Mine.rowsM6_5 : True := by
  (k_with "amcall" => ((with_reducible refine' Mine.CallV.n0 (Mine.a_holdsN _ _ _ _ _ _ _ _ _ _ _ ?zp0 ?zp1 ?zp2 (Mine.Nw0.intro ?_)) ?zhd ?zhT); k_extra "c11"; (case zhd => decide); k_extra "c38"))
  trivial
theorem Mine.rowsM10_1 : True := by
  (k_with "amX" => ((with_reducible refine' Mine.ForT.nil ?_)))
  (k_with "amX" => ((with_reducible refine' Mine.ForT.cons ?zhf ?_); (case zhf => k_extra "putl"); intro q))
  (k_with "amX" => ((with_reducible refine' Mine.ForS.next ?zhr ?zhk ?_); (case zhr => k_extra "rem"); (case zhk => k_mem)))
  (k_with "amX" => ((with_reducible refine' Mine.ForS.ret ?_)))
  (k_with "amRun" => ((with_reducible refine' Mine.Run.fors ?zhx ?_ ?zhf); (case zhx => kernel_rfl); (case zhf => intro; kernel_rfl)))
  (k_with "amX" => ((with_reducible refine' Mine.ItsV.tp ?zho ?zhi ?_); k_extra "c5"))
  (k_with "amX" => ((with_reducible refine' Mine.ItsV.ls ?zho ?zhi ?_); k_extra "c5"))
  (k_with "amX" => ((with_reducible refine' Mine.StrV.intro ?_)))
  (k_with "amEv" => ((with_reducible refine' Mine.Ev.msplit1 ?_ ?zhs ?zha ?zhc); k_extra "c23"))
  (k_with "amEv" => ((with_reducible refine' Mine.Ev.mstart ?_ ?zhs ?zha ?zhc); k_extra "c23"))
  (k_with "amEv" => ((with_reducible refine' Mine.Ev.msplit0 ?_ ?zhc); (case zhc => kernel_rfl)))
  (k_with "amEv" => ((with_reducible refine' Mine.Ev.tuple ?_)))
  (k_with "amEv" => ((with_reducible refine' Mine.Ev.list ?_)))
  (k_with "amX" => ((with_reducible refine' Mine.MkV.intro ?zhz ?_); (case zhz => kernel_rfl); intro t' o' ho'))
  (k_with "amEv" => ((with_reducible refine' Mine.Ev.sub ?_)))
  (k_with "amEv" => ((with_reducible refine' Mine.Ev.callB (f := Str.ofString "len") (id := "len") ?zn ?zhv ?zhn ?zhx ?zhd ?_ ?zhs ?zha ?zhc); k_extra "c1"))
  (k_with "amEv" => ((with_reducible refine' Mine.Ev.callB (f := Str.ofString "sorted") (id := "sorted") ?zn ?zhv ?zhn ?zhx ?zhd ?_ ?zhs ?zha ?zhc); k_extra "c1"))
  (k_with "amEv" => ((with_reducible refine' Mine.Ev.callT (f := Str.ofString "tuple") (id := "tuple") ?zn ?zhv ?zhn ?zhx ?zhd ?_ ?zhs ?zha ?zhc); k_extra "c1"))
  (k_with "amEv" => ((with_reducible refine' Mine.Ev.callT (f := Str.ofString "list") (id := "list") ?zn ?zhv ?zhn ?zhx ?zhd ?_ ?zhs ?zha ?zhc); k_extra "c1"))
  (k_with "amEv" => ((with_reducible refine' Mine.Ev.callT (f := Str.ofString "str") (id := "str") ?zn ?zhv ?zhn ?zhx ?zhd ?_ ?zhs ?zha ?zhc); k_extra "c1"))
  (k_with "amEv" => ((with_reducible refine' Mine.Ev.callT (f := Str.ofString "int") (id := "int") ?zn ?zhv ?zhn ?zhx ?zhd ?_ ?zhs ?zha ?zhc); k_extra "c1"))
  (k_with "amEv" => ((with_reducible refine' Mine.Ev.callT (f := Str.ofString "bytes") (id := "bytes") ?zn ?zhv ?zhn ?zhx ?zhd ?_ ?zhs ?zha ?zhc); k_extra "c1"))
  (k_with "amEv" => ((with_reducible refine' Mine.Ev.callF0 ?zn ?zhx ?zhd ?zhk ?_ ?zhc); (case zn => k_is); (case zhk => k_is); k_extra "c27"; (case zhc => kernel_rfl)))
  (k_with "amEv" => ((with_reducible refine' Mine.Ev.gstr ?ze ?zhx ?zhd ?_); (case ze => k_is); k_extra "c27"))
  (k_with "amEv" => ((with_reducible refine' Mine.Ev.slice1 ?_ ?zhs ?zhg); k_extra "c54"))
  (k_with "amX" => ((with_reducible refine' Mine.SlcV.intro ?zhz ?zhe ?_); (case zhz => k_extra "strlen"); (case zhe => k_extra "slice")))
  (k_with "amX" => ((with_reducible refine' Mine.Sub.sl ?zho ?zhi ?zp0 ?zp1 ?zp2 ?_ ?zhs); k_extra "c5"; k_extra "c6"; k_extra "c35"))
  (k_with "amX" => ((with_reducible refine' Mine.Sub.il ?zho ?zhi ?zp0 ?zp1 ?zp2 ?_ ?zhs); k_extra "c5"; k_extra "c6"; k_extra "c35"))
  (k_with "amX" => ((with_reducible refine' Mine.Sub.tp ?zho ?zhi ?zp0 ?zp1 ?zhj ?zhv ?_ ?zhs); k_extra "c5"; (case zp0 => decide); (case zp1 => decide); (case zhj => exact rfl); (case zhv => exact rfl); (case zhs => (intro _; kernel_rfl))))
  (k_with "amcall" => ((with_reducible refine' Mine.CallV.split1 ?zhy ?zhz ?zhe ?_); (case zhe => k_extra "split"); k_extra "c53"; intro l' o' ho'))
  (k_with "amcall" => ((with_reducible refine' Mine.CallV.split0 ?zhz ?zhe ?_); (case zhe => k_extra "split"); (case zhz => exact Nat.le_of_ble_eq_true (by kernel_rfl)); intro l' o' ho'))
  (k_with "amcall" => ((with_reducible refine' Mine.CallV.startswith ?zhb ?_); (case zhb => k_extra "sw")))
  (k_with "amcall" => ((with_reducible refine' Mine.CallV.lenS ?zhm ?zhz ?_); (case zhm => k_extra "len"); (case zhz => decide)))
  (k_with "amcmp" => ((with_reducible first | (refine' Mine.Cmp.inSL ?zho ?zhi (Mine.BoolV.intro ?_)) | (refine' Mine.Cmp.inSL ?zho ?zhi ?_)); k_extra "c5"))
  (k_with "amcmp" => ((with_reducible first | (refine' Mine.Cmp.notinSL ?zho ?zhi (Mine.BoolV.intro ?_)) | (refine' Mine.Cmp.notinSL ?zho ?zhi ?_)); k_extra "c5"))
  (k_with "amcmp" => ((with_reducible first | (refine' Mine.Cmp.inTp ?zho ?zhi ?zhy (Mine.BoolV.intro ?_)) | (refine' Mine.Cmp.inTp ?zho ?zhi ?zhy ?_)); k_extra "c5"; (case zhy => k_extra "strl")))
  (k_with "amEv" => ((with_reducible refine' Mine.Ev.index ?_ ?zhs ?zha ?zhc); k_extra "c23"))
  (k_with "amX" => ((with_reducible refine' Mine.IdxA.intro ?zh1 ?zh2 ?_); k_extra "c31"))
  (k_with "amX" => ((with_reducible refine' Mine.IdxE.intro ?zh1 ?zh2 ?_); (case zh1 => k_mem); (case zh2 => k_extra "idx")))
  (k_with "amRun" => ((with_reducible refine' Mine.Run.setil ?_ ?zhs); (case zhs => kernel_rfl)))
  (k_with "amX" => ((with_reducible refine' Mine.SetI.intro ?zh1 ?zh2 ?zh3 ?zh4 ?zh5 ?_); k_extra "c46"; intro o' ho'))
  (k_with "amif" => ((with_reducible refine' Mine.IfB.neg ?zhp ?_); (case zhp => k_extra "knownF")))
  (k_with "amif" => ((with_reducible refine' Mine.IfB.pos ?zhp ?_); (case zhp => k_extra "knownT")))
  (k_with "knownF" => with_reducible exact Mine.cnd_nin2 (by assumption))
  (k_with "knownT" => with_reducible exact Mine.cnd_in (by assumption))
  (k_with "idx" => with_reducible exact Mine.cnd_idx (by assumption))
  (k_with "sw" => with_reducible first | exact Mine.sw_1_j (by assumption) | exact Mine.sw_1_s (by assumption) | exact Mine.sw_2_j (by assumption) | exact Mine.sw_2_s (by assumption) | exact Mine.sw_2_c (by assumption))
  (k_with "strl" => with_reducible first | exact Mine.StrL.nil | (refine' Mine.StrL.cons ?za; (case za => k_extra "strl")))
  (k_with "split" => with_reducible first | exact Mine.sp_conds)
  (k_with "strlen" => first | assumption | exact Mine.nm_len (by decide) (by assumption) | exact Nat.le_of_ble_eq_true (by decide +kernel))
  (k_with "slice" => with_reducible first | exact Mine.sl_1 (by assumption) | exact Mine.sl_2 (by assumption))
  (k_with "len" => with_reducible first | exact Mine.len_j | exact Mine.len_set | exact Mine.len_cmov)
  trivial
namespace Mine
variable {w : World}
theorem cnd_nin2 {k : Nat} (hk : k < 16) : (!(cndL.any fun x => x == cnd k)) = false := by rw [cnd_in hk]; rfl
theorem cnd_at_dec : ∀ k : Fin 16, (cndL[k.val]? == some (cnd k.val)) = true := by decide +kernel
theorem cnd_at {k : Nat} (hk : k < 16) : cndL[k]? = some (cnd k) := beq_iff_eq.mp (cnd_at_dec ⟨k, hk⟩)
theorem cnd_idx {k : Nat} (hk : k < 16) : cndL[k]? = some (cnd k) ∧ (∀ j, j < k → ∀ z, cndL[j]? = some z → (z == cnd k) = false) ∧ k < 2 ^ 62 :=
  ⟨cnd_at hk, fun j hj z e => by rw [cnd_at (by omega)] at e; rw [← Option.some.inj e, cnd_eq (by omega) hk]; exact decide_eq_false (by omega), Nat.lt_of_lt_of_le hk (by decide)⟩
theorem len_j : (Str.ofString "j").length = 1 := by decide +kernel
theorem len_set : (Str.ofString "set").length = 3 := by decide +kernel
theorem len_cmov : (Str.ofString "cmov").length = 4 := by decide +kernel
theorem sp_conds : Txt.split (Str.ofString "o no b ae e ne be a s ns p np l ge le g") (Str.ofString " ") = cndL := by decide +kernel
end Mine
namespace Mine
variable {w : World}
theorem a_condNames  {P : AV → Led → Prop} (h : ∀ D' o, IsSL o cndL → P (.ref D') [(D', o)]) : CallsN w 129 [] [] 1 P := by
  refine' CallsN.of_body (ns := []) (ds := []) (dvs := []) 0 ?zho ?zhcd ?zhdv ?zhb ?zhloc ?zhco ?zhge ?zhki ?zhcell ?zhD ?_
  k_extra "enter"
  repeat' (first | k_extra "am" | fail "end")
  all_goals exact FinN.ret (h _ _ (by assumption)) Takes.all
end Mine
theorem Mine.rowsM10_2 : True := by
  (k_with "amcall" => ((with_reducible refine' Mine.CallV.n (Mine.a_condNames  (fun l' o' ho' => ?_)) ?zhd ?zhT); k_extra "c9"))
  trivial
namespace Mine
variable {w : World}
theorem a_condNumber (k : Nat) (hk : k < 16) {P : AV → Led → Prop} (h : P (.int k) []) : CallsN w 213 [.str (cnd k)] [] 2 P := by
  refine' CallsN.of_body (ns := [Str.ofString "condition"]) (ds := []) (dvs := []) 1 ?zho ?zhcd ?zhdv ?zhb ?zhloc ?zhco ?zhge ?zhki ?zhcell ?zhD ?_
  k_extra "enter"
  repeat' (first | k_extra "am" | fail "end")
  all_goals exact FinN.ret0 h Takes.nil
end Mine
theorem Mine.rowsM10_3 : True := by
  (k_with "amcall" => ((with_reducible refine' Mine.CallV.n0 (Mine.a_condNumber _ ?zp0 (Mine.Nw0.intro ?_)) ?zhd ?zhT); k_extra "c9"; (case zp0 => assumption)))
  trivial
namespace Mine
variable {w : World}
theorem a_holds (fx fd : Addr) (o : Obj) (c p a z sf f d : Int) (k : Nat) (ho : IsDict w o (flE c p a z sf f d)) (hk : k < 16) {P : AV → Led → Prop} (h : P (.bool (hn c p z sf f k)) []) : CallsN w 227 [.ref fx, .str (cnd k)] [(fx, instObj 202 fd), (fd, o)] 4 P := by
  have hk0 : (0 : Int) ≤ (k : Int) := by omega
  have hk1 : (k : Int) < 16 := by omega
  refine' CallsN.of_body (ns := [Str.ofString "flags", Str.ofString "condition"]) (ds := []) (dvs := []) 3 ?zho ?zhcd ?zhdv ?zhb ?zhloc ?zhco ?zhge ?zhki ?zhcell ?zhD ?_
  k_extra "enter"
  repeat' (first | k_extra "am" | fail "end")
  all_goals exact FinN.ret0 h Takes.all
end Mine
theorem Mine.rowsM10_4 : True := by
  (k_with "amcall" => ((with_reducible refine' Mine.CallV.n0 (Mine.a_holds _ _ _ _ _ _ _ _ _ _ _ ?zp0 ?zp1 (Mine.Nw0.intro ?_)) ?zhd ?zhT); k_extra "c11"; (case zhd => decide); (case zp1 => assumption)))
  trivial
namespace Mine
variable {w : World}
theorem a_condOf1 (k : Nat) (hk : k < 16) {P : AV → Led → Prop} (h : P (.str (cnd k)) []) : CallsN w 283 [.str (nm 1 k)] [] 4 P := by
  refine' CallsN.of_body (ns := [Str.ofString "name"]) (ds := []) (dvs := []) 3 ?zho ?zhcd ?zhdv ?zhb ?zhloc ?zhco ?zhge ?zhki ?zhcell ?zhD ?_
  k_extra "enter"
  repeat' (first | k_extra "am" | fail "end")
  all_goals exact FinN.ret0 h Takes.nil
end Mine
theorem Mine.rowsM10_5 : True := by
  (k_with "amcall" => ((with_reducible refine' Mine.CallV.n0 (Mine.a_condOf1 _ ?zp0 (Mine.Nw0.intro ?_)) ?zhd ?zhT); k_extra "c9"; (case zp0 => assumption)))
  trivial
namespace Mine
variable {w : World}
theorem a_condOf2 (k : Nat) (hk : k < 16) {P : AV → Led → Prop} (h : P (.str (cnd k)) []) : CallsN w 283 [.str (nm 2 k)] [] 4 P := by
  refine' CallsN.of_body (ns := [Str.ofString "name"]) (ds := []) (dvs := []) 3 ?zho ?zhcd ?zhdv ?zhb ?zhloc ?zhco ?zhge ?zhki ?zhcell ?zhD ?_
  k_extra "enter"
  repeat' (first | k_extra "am" | fail "end")
  all_goals exact FinN.ret0 h Takes.nil
end Mine
theorem Mine.rowsM10_6 : True := by
  (k_with "amcall" => ((with_reducible refine' Mine.CallV.n0 (Mine.a_condOf2 _ ?zp0 (Mine.Nw0.intro ?_)) ?zhd ?zhT); k_extra "c9"; (case zp0 => assumption)))
  trivial
namespace Mine
variable {w : World} {S : Scope} {D : Nat}
def NnV (v : AV) (X : Prop) : Prop := v = .none ∧ X
theorem NnV.intro {X : Prop} (h : X) : NnV .none X := ⟨rfl, h⟩
section clsR
variable {c : Cx w S D} {l : Locs} {led sub : Led} {P : AV → Led → Prop} {R : Out → Locs → Led → Prop} {x : Str} {pos : Pos} {k : Nat} {a C fI : Addr} {o : Obj} {vs : List AV} {ys : List Str} {d : Nat}
theorem CallV.cls (k1 : makesIn (K w.params) C = true) (k2 : findIn (K w.params) (.ref C) "__init__" = some (some (.ref fI))) (k3 : isFn (K w.params) (.ref fI) = true) (hd : d + 1 ≤ D) (T : Takes sub led)
    (h : ∀ x dx, CallsT w fI (.ref x :: vs) ((x, instObj C dx) :: (dx, dictOf [] 0) :: sub) dx d fun v o' => NnV v (P (.ref x) ((x, instObj C dx) :: (dx, o') :: led))) : CallV c l (.ref C) vs led P := fun us hv s Q E hA hQ => by
  obtain ⟨⟨m, F, hl⟩, N, nd⟩ := hA
  refine call_cls F c.X N k1 k2 k3 fun x dx h' F' N' h1 h2 => ?_
  have nd1 : ∀ p ∈ led, p.1 ≠ dx := fun p hp e => absurd (h1 p hp) (by rw [e]; exact Nat.lt_irrefl _)
  have nd2 : ∀ p ∈ led, p.1 ≠ x := fun p hp e => absurd (Nat.lt_trans (h1 p hp) h2) (by rw [e]; exact Nat.lt_irrefl _)
  have nds : ∀ (o' : Obj) (lg : Led), (∀ p ∈ lg, p ∈ led) → (lg.map (·.1)).Nodup → (((x, instObj C dx) :: (dx, o') :: lg).map (·.1)).Nodup := fun o' lg hs hn => by
    rw [List.map_cons, List.map_cons, List.nodup_cons, List.nodup_cons]
    refine ⟨fun hm => ?_, fun hm => ?_, hn⟩
    · rcases List.mem_cons.mp hm with e | hm
      · exact Nat.lt_irrefl x (by have e' : x = dx := e; exact (e' ▸ h2 : x < x))
      · obtain ⟨p, hp, e⟩ := List.mem_map.mp hm; exact nd2 p (hs p hp) e
    · obtain ⟨p, hp, e⟩ := List.mem_map.mp hm; exact nd1 p (hs p hp) e
  have hu := c.hu
  have hdd := c.hd
  refine h x dx (nds _ sub T.mem (T.nd nd)) (.ref x :: us) ⟨rfl, hv⟩ c.p c.loose c.mean c.mg c.mb (c.dp + 1) (c.un + 1) c.gd c.cn S c.a c.ccd c.cl c.outer c.A₀ c.base c.g c.L m { s with heap := h' } _ c.B F' c.X (fun q hq => ?_) c.T c.hk (by omega) (by omega) fun a v o' h3 tk3 i hP F3 N3 kp => ?_
  · rcases List.mem_cons.mp hq with rfl | hq
    · exact N' _ (.head _)
    · rcases List.mem_cons.mp hq with rfl | hq
      · exact N' _ (.tail _ (.head _))
      · exact N' _ (.tail _ (.tail _ (T.mem q hq)))
  · obtain ⟨rfl, hP⟩ := hP
    obtain rfl : v = .none := i
    refine ⟨rfl, hQ _ _ _ h3 tk3 hP rfl ⟨⟨m, F3, hl⟩, fun q hq => ?_, nds o' led (fun _ h => h) nd⟩⟩
    rcases List.mem_cons.mp hq with rfl | hq
    · have hx := N' (x, instObj C dx) (.head _)
      exact ⟨kp _ _ hx.1 (fun e => Nat.lt_irrefl x (by have e' : x = dx := List.mem_singleton.mp e; exact (e' ▸ h2 : x < x))), hx.2⟩
    · rcases List.mem_cons.mp hq with rfl | hq
      · exact N3 _ (.head _)
      · have hx := N' q (.tail _ (.tail _ hq))
        exact ⟨kp _ _ hx.1 (fun e => nd1 q hq (List.mem_singleton.mp e)), hx.2⟩
theorem Cmp.eqLen {b : Addr} {o2 : Obj} {vs2 : List AV} (h1 : (a, o) ∈ led) (hi : IsSL o ys) (h2 : (b, o2) ∈ led) (hi2 : IsLs o2 vs2) (hn : (ys.length != vs2.length) = true) (h : P (.bool false) led) : Cmp c l .Eq (.ref a) (.ref b) led P := fun u v hu hv s Q E hA hQ => by
  obtain rfl : u = .ref a := hu
  obtain rfl : v = .ref b := hv
  obtain ⟨us, n, rfl, hs⟩ := hi
  obtain ⟨us2, n2, rfl, hs2⟩ := hi2
  exact eq_lens (hA.nw.isList h1) (hA.nw.isList h2) (by rw [List.size_toArray, List.size_toArray, StrsAre.len hs, hs2.len]; exact hn) (by have := c.hu; show c.un < cLine; omega) (hQ _ _ _ s.heap s.toks h rfl hA)
theorem Tr.chain {a b z : PySem.Expr} {op1 op2 : CmpOp} {P : Bool → Led → Prop} (h : Ev c l led a fun x led1 => Ev c l led1 b fun y led2 => Cmp c l op1 x y led2 fun v led3 => BoolV v fun t => IfB t (Ev c l led3 z fun u led4 => Cmp c l op2 y u led4 fun v led5 => BoolV v fun t => P t led5) (P false led3))
    (hm : lastMarks [op1, op2] [b, z] = false) : Tr c l led (.Compare a [op1, op2] [b, z] pos) P := fun s Q E hA hQ => by
  refine isTrue_chain (h s _ E hA fun x led1 u1 h1 tk1 hP hx hA1 => ?_) hm
  refine test_link (hP _ _ E hA1 fun y led2 u2 h2 tk2 hP2 hy hA2 => hP2 u1 u2 hx hy _ _ E hA2 fun v led3 u3 h3 tk3 hP3 hv hA3 => ?_)
  obtain ⟨t, rfl, ht⟩ := hP3
  obtain rfl : u3 = .bool t := hv
  refine wpAny_truthy_bool ?_
  cases t with
  | false => exact (if_neg (by decide)).mpr (hQ false led3 h3 tk3 (ht.2 rfl) hA3)
  | true =>
    refine (if_pos rfl).mpr (test_last (ht.1 rfl _ _ E hA3 fun u led4 u4 h4 tk4 hP4 hu hA4 => hP4 u2 u4 hy hu _ _ E hA4 fun v led5 u5 h5 tk5 hP5 hv hA5 => ?_))
    obtain ⟨t, rfl, ht⟩ := hP5
    obtain rfl : u5 = .bool t := hv
    exact wpAny_truthy_bool (hQ t led5 h5 tk5 ht hA5)
theorem CallV.strI {i : Int} (h0 : 0 ≤ i) (h1 : i < 10 ^ 10) (h : ∀ y : Str, y.length ≤ 10 → P (.str y) led) : CallV c l (.type "str") [.int i] led P := fun us hv s Q E hA hQ => by
  match us, hv with
  | [_], ⟨⟨t, rfl⟩, _⟩ => exact _root_.PySem.P.str_of_int (shown (N := 10 ^ 10) (by omega) h1 (by decide)) (hQ _ _ _ s.heap _ (h _ (KT.len_num h0 h1)) ⟨_, rfl⟩ hA)
end clsR
end Mine
theorem Mine.rowsM12_1 : True := by
  (k_with "amTr" => ((with_reducible refine' Mine.Tr.chain ?_ ?zhm); (case zhm => kernel_rfl)))
  (k_with "amcmp" => ((with_reducible first | (refine' Mine.Cmp.eqLen ?zh1 ?zi1 ?zh2 ?zi2 ?zhn (Mine.BoolV.intro ?_)) | (refine' Mine.Cmp.eqLen ?zh1 ?zi1 ?zh2 ?zi2 ?zhn ?_)); k_extra "c13"; (case zhn => k_extra "lenne")))
  (k_with "lenne" => first | (rw [(by assumption : List.length _ = 8)]; rfl) | exact rfl)
  trivial
namespace Mine
variable {w : World}
theorem a_initRg (x dx : Addr) (nm kd : Str) (k n : Int) {P : AV → Obj → Prop} (h : ∀ o', IsDict w o' (rgE nm kd k n) → P .none o') : CallsT w 297 (.ref x :: [.str nm, .str kd, .int k, .int n]) ((x, instObj 335 dx) :: (dx, dictOf [] 0) :: []) dx 1 P := by
  refine' CallsT.of_body (ns := [Str.ofString "self", Str.ofString "name", Str.ofString "kind", Str.ofString "number", Str.ofString "size"]) (ds := []) (dvs := []) 0 ?zhU ?zho ?zhcd ?zhdv ?zhb ?zhloc ?zhco ?zhge ?zhki ?zhcell ?zhD ?_
  (case zhU => k_extra "put")
  k_extra "enter"
  repeat' (first | k_extra "am" | fail "end")
  all_goals exact FinT.next (h _ (by assumption)) Takes.all
end Mine
theorem Mine.rowsM12_2 : True := by
  (k_with "amcall" => ((with_reducible refine' Mine.CallV.cls (C := 335) (fI := 297) (sub := []) (d := 1) ?zk1 ?zk2 ?zk3 ?zhd ?zhT fun x' dx' => Mine.a_initRg _ _ _ _ _ _ fun o' ho' => Mine.NnV.intro ?_); k_extra "c24"))
  (k_with "amcall" => ((with_reducible refine' Mine.CallV.strI ?zp0 ?zp1 ?_); k_extra "c6"; intro y' hy'))
  (k_with "strlen" => first | exact Mine.slen2 (by assumption) | exact Mine.slen3 (by assumption) (by assumption))
  trivial
namespace Mine
variable {w : World}
theorem slen2 {y : Str} (h : y.length ≤ 10) : (Str.ofString "r").length + y.length ≤ sizeLine := Nat.le_trans (Nat.add_le_add (show (Str.ofString "r").length ≤ 1 from Nat.le_of_ble_eq_true (by decide +kernel)) h) (Nat.le_of_ble_eq_true rfl)
theorem slen3 {y z : Str} (h : y.length ≤ 10) (h2 : z.length ≤ 1) : (Str.ofString "r" ++ y).length + z.length ≤ sizeLine := Nat.le_trans (Nat.add_le_add (KT.len_app (show (Str.ofString "r").length ≤ 1 from Nat.le_of_ble_eq_true (by decide +kernel)) h) h2) (Nat.le_of_ble_eq_true rfl)
theorem w64 : (Txt.words (Str.ofString "rax rcx rdx rbx rsp rbp rsi rdi")).length = 8 := by decide +kernel
theorem w32 : (Txt.words (Str.ofString "eax ecx edx ebx esp ebp esi edi")).length = 8 := by decide +kernel
theorem w16 : (Txt.words (Str.ofString "ax cx dx bx sp bp si di")).length = 8 := by decide +kernel
theorem w8 : (Txt.words (Str.ofString "al cl dl bl spl bpl sil dil")).length = 8 := by decide +kernel
theorem wH : (Txt.words (Str.ofString "ah ch dh bh")).length = 4 := by decide +kernel
end Mine
theorem Mine.rowsM12_3 : True := by
  (k_with "split" => exact rfl)
  (k_with "hi4" => skip)
  trivial
namespace Mine
variable {w : World}
theorem a_early (n : Int) (hn : n = 8 ∨ n = 16 ∨ n = 32 ∨ n = 64) {P : AV → Led → Prop} (h : ∀ D' o ys, IsSL o ys → ys.length = 8 → P (.ref D') [(D', o)]) : CallsN w 346 [.int n] [] 1 P := by
  refine' CallsN.of_body (ns := [Str.ofString "size"]) (ds := []) (dvs := []) 0 ?zho ?zhcd ?zhdv ?zhb ?zhloc ?zhco ?zhge ?zhki ?zhcell ?zhD ?_
  k_extra "enter"
  repeat' (first | k_extra "am" | fail "end")
  all_goals first | (exfalso; omega) | exact FinN.ret (h _ _ _ (by assumption) (by first | exact w64 | exact w32 | exact w16 | exact w8)) Takes.all
end Mine
theorem Mine.rowsM12_4 : True := by
  (k_with "amcall" => ((with_reducible refine' Mine.CallV.n (Mine.a_early _ ?zp0 (fun l' o' ys' ho' hl' => ?_)) ?zhd ?zhT); k_extra "c9"; (case zp0 => first | assumption | decide)))
  trivial
namespace Mine
variable {w : World}
theorem a_late (n : Int) {P : AV → Led → Prop} (h : ∀ y : Str, y.length ≤ 1 → P (.str y) []) : CallsN w 353 [.int n] [] 1 P := by
  refine' CallsN.of_body (ns := [Str.ofString "size"]) (ds := []) (dvs := []) 0 ?zho ?zhcd ?zhdv ?zhb ?zhloc ?zhco ?zhge ?zhki ?zhcell ?zhD ?_
  k_extra "enter"
  repeat' (first | k_extra "am" | fail "end")
  all_goals exact FinN.ret0 (h _ (Nat.le_of_ble_eq_true (by decide +kernel))) Takes.nil
end Mine
theorem Mine.rowsM12_5 : True := by
  (k_with "amcall" => ((with_reducible refine' Mine.CallV.n0 (Mine.a_late _ (fun y' hy' => Mine.Nw0.intro ?_)) ?zhd ?zhT); k_extra "c9"))
  trivial
namespace Mine
variable {w : World}
theorem a_gpr (k n : Int) (h0 : 0 ≤ k) (h1 : k < 16) (hn : n = 8 ∨ n = 16 ∨ n = 32 ∨ n = 64) {P : AV → Led → Prop} (h : ∀ x d o nm, IsDict w o (rgE nm (Str.ofString "gpr") k n) → P (.ref x) [(x, instObj 335 d), (d, o)]) : CallsN w 360 [.int k, .int n] [] 4 P := by
  refine' CallsN.of_body (ns := [Str.ofString "number", Str.ofString "size"]) (ds := []) (dvs := []) 3 ?zho ?zhcd ?zhdv ?zhb ?zhloc ?zhco ?zhge ?zhki ?zhcell ?zhD ?_
  k_extra "enter"
  repeat' (first | k_extra "am" | fail "end")
  all_goals first | (exfalso; omega) | exact FinN.ret (h _ _ _ _ (by assumption)) (Takes.cons .head (Takes.cons .head Takes.nil))
end Mine
theorem Mine.rowsM12_6 : True := by
  (k_with "amcall" => ((with_reducible refine' Mine.CallV.n (Mine.a_gpr _ _ ?zp0 ?zp1 ?zp2 (fun x' d' o' nm' ho' => ?_)) ?zhd ?zhT); k_extra "c49"; (case zp2 => first | assumption | decide)))
  trivial
theorem Mine.rowsM12_7 : True := by
  (k_with "bnd" => first | (rw [Mine.wH]; omega) | with_reducible assumption | omega | decide)
  trivial
namespace Mine
variable {w : World}
theorem a_high (k : Int) (h0 : 4 ≤ k) (h1 : k < 8) {P : AV → Led → Prop} (h : ∀ x d o nm, IsDict w o (rgE nm (Str.ofString "high") k 8) → P (.ref x) [(x, instObj 335 d), (d, o)]) : CallsN w 367 [.int k] [] 4 P := by
  refine' CallsN.of_body (ns := [Str.ofString "number"]) (ds := []) (dvs := []) 3 ?zho ?zhcd ?zhdv ?zhb ?zhloc ?zhco ?zhge ?zhki ?zhcell ?zhD ?_
  k_extra "enter"
  repeat' (first | k_extra "am" | fail "end")
  all_goals first | (exfalso; omega) | exact FinN.ret (h _ _ _ _ (by assumption)) (Takes.cons .head (Takes.cons .head Takes.nil))
end Mine
theorem Mine.rowsM12_8 : True := by
  (k_with "amcall" => ((with_reducible refine' Mine.CallV.n (Mine.a_high _ ?zp0 ?zp1 (fun x' d' o' nm' ho' => ?_)) ?zhd ?zhT); k_extra "c49"))
  trivial
namespace Mine
variable {w : World}
theorem sh8b (x y : Int) : Builtin.Int.intBits (x % 2 ^ (8 : Int).toNat - y % 2 ^ (8 : Int).toNat) ≤ 64 := by
  have := sh8 x y
  generalize x % 2 ^ (8 : Int).toNat - y % 2 ^ (8 : Int).toNat = z at *
  exact intBits_le_64 (by omega) (by omega)
end Mine
namespace Mine
variable {w : World}
theorem a_get (st sd rl xl fx mx sg : Addr) (so lo : Obj) (rip : Int) (ns : List Int) (rx rd : Addr) (ro : Obj) (nm : Str) (k n : Int) (hso : IsDict w so (stE rl xl fx mx sg rip)) (hi : IsIL lo ns) (hl : ns.length = 16) (hro : IsDict w ro (rgE nm (Str.ofString "gpr") k n)) (h0 : 0 ≤ k) (h1 : k < 16) (hn : n = 8 ∨ n = 16 ∨ n = 32 ∨ n = 64) {P : AV → Led → Prop} (h : P (.int (ns.getD k.toNat 0 % 2 ^ n.toNat)) []) : CallsN w 566 [.ref st, .ref rx] [(st, instObj 651 sd), (sd, so), (rl, lo), (rx, instObj 335 rd), (rd, ro)] 4 P := by
  refine' CallsN.of_body (ns := [Str.ofString "self", Str.ofString "register"]) (ds := []) (dvs := []) 3 ?zho ?zhcd ?zhdv ?zhb ?zhloc ?zhco ?zhge ?zhki ?zhcell ?zhD ?_
  k_extra "enter"
  repeat' (first | k_extra "am" | fail "end")
  all_goals exact FinN.ret0 h Takes.all
end Mine
theorem Mine.rowsM13_1 : True := by
  (k_with "amcall" => ((with_reducible refine' Mine.CallV.n0 (Mine.a_get _ _ _ _ _ _ _ _ _ _ _ _ _ _ _ _ _ ?zp0 ?zp1 ?zp2 ?zp3 ?zp4 ?zp5 ?zp6 (Mine.Nw0.intro ?_)) ?zhd ?zhT); k_extra "c34"; (case zp6 => first | assumption | decide)))
  trivial
namespace Mine
variable {w : World}
theorem a_getH (st sd rl xl fx mx sg : Addr) (so lo : Obj) (rip : Int) (ns : List Int) (rx rd : Addr) (ro : Obj) (nm : Str) (k : Int) (hso : IsDict w so (stE rl xl fx mx sg rip)) (hi : IsIL lo ns) (hl : ns.length = 16) (hro : IsDict w ro (rgE nm (Str.ofString "high") k 8)) (h0 : 4 ≤ k) (h1 : k < 8) {P : AV → Led → Prop} (h : P (.int (ns.getD (k - 4).toNat 0 / 256 % 256)) []) : CallsN w 566 [.ref st, .ref rx] [(st, instObj 651 sd), (sd, so), (rl, lo), (rx, instObj 335 rd), (rd, ro)] 4 P := by
  refine' CallsN.of_body (ns := [Str.ofString "self", Str.ofString "register"]) (ds := []) (dvs := []) 3 ?zho ?zhcd ?zhdv ?zhb ?zhloc ?zhco ?zhge ?zhki ?zhcell ?zhD ?_
  k_extra "enter"
  repeat' (first | k_extra "am" | fail "end")
  all_goals exact FinN.ret0 (by rw [fdiv2]; exact h) Takes.all
end Mine
theorem Mine.rowsM13_2 : True := by
  (k_with "amcall" => ((with_reducible refine' Mine.CallV.n0 (Mine.a_getH _ _ _ _ _ _ _ _ _ _ _ _ _ _ _ _ ?zp0 ?zp1 ?zp2 ?zp3 ?zp4 ?zp5 (Mine.Nw0.intro ?_)) ?zhd ?zhT); k_extra "c34"))
  trivial
namespace Mine
variable {w : World}
theorem a_joined (x v n : Int) (hn : n = 8 ∨ n = 16 ∨ n = 32 ∨ n = 64) {P : AV → Led → Prop} (h : P (.int (if n < 32 then x - x % 2 ^ n.toNat + v else v)) []) : CallsN w 545 [.int x, .int v, .int n] [] 3 P := by
  refine' CallsN.of_body (ns := [Str.ofString "old", Str.ofString "worth", Str.ofString "size"]) (ds := []) (dvs := []) 2 ?zho ?zhcd ?zhdv ?zhb ?zhloc ?zhco ?zhge ?zhki ?zhcell ?zhD ?_
  k_extra "enter"
  repeat' (first | k_extra "am" | fail "end")
  · exact FinN.ret0 (by rwa [if_neg (by omega)] at h) Takes.nil
  · exact FinN.ret0 (by rwa [if_pos (by omega)] at h) Takes.nil
end Mine
theorem Mine.rowsM13_3 : True := by
  (k_with "amcall" => ((with_reducible refine' Mine.CallV.n0 (Mine.a_joined _ _ _ ?zp0 (Mine.Nw0.intro ?_)) ?zhd ?zhT); k_extra "c9"; (case zp0 => first | assumption | decide)))
  trivial
namespace Mine
variable {w : World}
theorem a_put (st sd rl xl fx mx sg : Addr) (so lo : Obj) (rip : Int) (ns : List Int) (rx rd : Addr) (ro : Obj) (nm : Str) (k n x : Int) (hso : IsDict w so (stE rl xl fx mx sg rip)) (hi : IsIL lo ns) (hl : ns.length = 16) (hro : IsDict w ro (rgE nm (Str.ofString "gpr") k n)) (h0 : 0 ≤ k) (h1 : k < 16) (hn : n = 8 ∨ n = 16 ∨ n = 32 ∨ n = 64) {P : AV → Obj → Prop} (h : ∀ o', IsIL o' (ns.set k.toNat (rset (ns.getD k.toNat 0) x n)) → P .none o') : CallsT w 573 [.ref st, .ref rx, .int x] [(st, instObj 651 sd), (sd, so), (rl, lo), (rx, instObj 335 rd), (rd, ro)] rl 4 P := by
  refine' CallsT.of_body (ns := [Str.ofString "self", Str.ofString "register", Str.ofString "worth"]) (ds := []) (dvs := []) 3 ?zhU ?zho ?zhcd ?zhdv ?zhb ?zhloc ?zhco ?zhge ?zhki ?zhcell ?zhD ?_
  (case zhU => k_extra "put")
  k_extra "enter"
  repeat' (first | k_extra "am" | fail "end")
  all_goals exact FinT.next (h _ (by unfold rset; assumption)) Takes.all
end Mine
theorem Mine.rowsM13_4 : True := by
  (k_with "amcall" => ((with_reducible refine' Mine.CallV.t (Mine.a_put _ _ _ _ _ _ _ _ _ _ _ _ _ _ _ _ _ _ ?zp0 ?zp1 ?zp2 ?zp3 ?zp4 ?zp5 ?zp6 (fun o' ho' => ?_)) ?zhd ?zhT ?zhU); k_extra "c7"; (case zp6 => first | assumption | decide)))
  (k_with "bits" => exact kbm_shl (m := 64) (Mine.sh8b _ _) (by decide) (by decide))
  trivial
namespace Mine
variable {w : World}
theorem a_putH (st sd rl xl fx mx sg : Addr) (so lo : Obj) (rip : Int) (ns : List Int) (rx rd : Addr) (ro : Obj) (nm : Str) (k x : Int) (hso : IsDict w so (stE rl xl fx mx sg rip)) (hi : IsIL lo ns) (hl : ns.length = 16) (hro : IsDict w ro (rgE nm (Str.ofString "high") k 8)) (h0 : 4 ≤ k) (h1 : k < 8) {P : AV → Obj → Prop} (h : ∀ o', IsIL o' (ns.set (k - 4).toNat (rsetH (ns.getD (k - 4).toNat 0) x)) → P .none o') : CallsT w 573 [.ref st, .ref rx, .int x] [(st, instObj 651 sd), (sd, so), (rl, lo), (rx, instObj 335 rd), (rd, ro)] rl 4 P := by
  refine' CallsT.of_body (ns := [Str.ofString "self", Str.ofString "register", Str.ofString "worth"]) (ds := []) (dvs := []) 3 ?zhU ?zho ?zhcd ?zhdv ?zhb ?zhloc ?zhco ?zhge ?zhki ?zhcell ?zhD ?_
  (case zhU => k_extra "put")
  k_extra "enter"
  repeat' (first | k_extra "am" | fail "end")
  all_goals (simp only [fdiv2] at *; exact FinT.next (h _ (by unfold rsetH; assumption)) Takes.all)
end Mine
theorem Mine.rowsM13_5 : True := by
  (k_with "amcall" => ((with_reducible refine' Mine.CallV.t (Mine.a_putH _ _ _ _ _ _ _ _ _ _ _ _ _ _ _ _ _ ?zp0 ?zp1 ?zp2 ?zp3 ?zp4 ?zp5 (fun o' ho' => ?_)) ?zhd ?zhT ?zhU); k_extra "c7"))
  trivial
namespace Mine
variable {w : World}
theorem a_putLow (st sd rl xl fx mx sg : Addr) (so lo : Obj) (rip : Int) (ns : List Int) (rx rd : Addr) (ro : Obj) (nm : Str) (k n z x : Int) (hso : IsDict w so (stE rl xl fx mx sg rip)) (hi : IsIL lo ns) (hl : ns.length = 16) (hro : IsDict w ro (rgE nm (Str.ofString "gpr") k n)) (h0 : 0 ≤ k) (h1 : k < 16) (hn : n = 8 ∨ n = 16 ∨ n = 32 ∨ n = 64) {P : AV → Obj → Prop} (h : ∀ o', IsIL o' (ns.set k.toNat (rset (ns.getD k.toNat 0) x n)) → P .none o') : CallsT w 580 [.ref st, .ref rx, .int z, .int x] [(st, instObj 651 sd), (sd, so), (rl, lo), (rx, instObj 335 rd), (rd, ro)] rl 5 P := by
  refine' CallsT.of_body (ns := [Str.ofString "self", Str.ofString "register", Str.ofString "size", Str.ofString "worth"]) (ds := []) (dvs := []) 4 ?zhU ?zho ?zhcd ?zhdv ?zhb ?zhloc ?zhco ?zhge ?zhki ?zhcell ?zhD ?_
  (case zhU => k_extra "put")
  k_extra "enter"
  repeat' (first | k_extra "am" | fail "end")
  all_goals exact FinT.next (h _ (by assumption)) Takes.all
end Mine
theorem Mine.rowsM13_6 : True := by
  (k_with "amcall" => ((with_reducible refine' Mine.CallV.t (Mine.a_putLow _ _ _ _ _ _ _ _ _ _ _ _ _ _ _ _ _ _ _ ?zp0 ?zp1 ?zp2 ?zp3 ?zp4 ?zp5 ?zp6 (fun o' ho' => ?_)) ?zhd ?zhT ?zhU); k_extra "c7"; (case zp6 => first | assumption | decide)))
  trivial
namespace Mine
variable {w : World}
theorem a_putLowH (st sd rl xl fx mx sg : Addr) (so lo : Obj) (rip : Int) (ns : List Int) (rx rd : Addr) (ro : Obj) (nm : Str) (k z x : Int) (hso : IsDict w so (stE rl xl fx mx sg rip)) (hi : IsIL lo ns) (hl : ns.length = 16) (hro : IsDict w ro (rgE nm (Str.ofString "high") k 8)) (h0 : 4 ≤ k) (h1 : k < 8) {P : AV → Obj → Prop} (h : ∀ o', IsIL o' (ns.set (k - 4).toNat (rsetH (ns.getD (k - 4).toNat 0) x)) → P .none o') : CallsT w 580 [.ref st, .ref rx, .int z, .int x] [(st, instObj 651 sd), (sd, so), (rl, lo), (rx, instObj 335 rd), (rd, ro)] rl 5 P := by
  refine' CallsT.of_body (ns := [Str.ofString "self", Str.ofString "register", Str.ofString "size", Str.ofString "worth"]) (ds := []) (dvs := []) 4 ?zhU ?zho ?zhcd ?zhdv ?zhb ?zhloc ?zhco ?zhge ?zhki ?zhcell ?zhD ?_
  (case zhU => k_extra "put")
  k_extra "enter"
  repeat' (first | k_extra "am" | fail "end")
  all_goals exact FinT.next (h _ (by assumption)) Takes.all
end Mine
theorem Mine.rowsM13_7 : True := by
  (k_with "amcall" => ((with_reducible refine' Mine.CallV.t (Mine.a_putLowH _ _ _ _ _ _ _ _ _ _ _ _ _ _ _ _ _ _ ?zp0 ?zp1 ?zp2 ?zp3 ?zp4 ?zp5 (fun o' ho' => ?_)) ?zhd ?zhT ?zhU); k_extra "c7"))
  trivial
namespace Mine
variable {w : World}
theorem a_read (st sd rl xl fx mx sg : Addr) (so lo : Obj) (rip : Int) (ns : List Int) (op od : Addr) (oo : Obj) (rx rd : Addr) (ro : Obj) (nm : Str) (k n z : Int) (hso : IsDict w so (stE rl xl fx mx sg rip)) (hi : IsIL lo ns) (hl : ns.length = 16) (hop : IsDict w oo (opE rx)) (hro : IsDict w ro (rgE nm (Str.ofString "gpr") k n)) (h0 : 0 ≤ k) (h1 : k < 16) (hn : n = 8 ∨ n = 16 ∨ n = 32 ∨ n = 64) (hz0 : 0 ≤ z) (hz1 : z ≤ 64) {P : AV → Led → Prop} (h : P (.int (ns.getD k.toNat 0 % 2 ^ n.toNat % 2 ^ z.toNat)) []) : CallsN w 613 [.ref st, .ref op, .int z] [(st, instObj 651 sd), (sd, so), (rl, lo), (op, instObj 728 od), (od, oo), (rx, instObj 335 rd), (rd, ro)] 6 P := by
  refine' CallsN.of_body (ns := [Str.ofString "self", Str.ofString "operand", Str.ofString "size"]) (ds := []) (dvs := []) 5 ?zho ?zhcd ?zhdv ?zhb ?zhloc ?zhco ?zhge ?zhki ?zhcell ?zhD ?_
  k_extra "enter"
  repeat' (first | k_extra "am" | fail "end")
  all_goals exact FinN.ret0 h Takes.all
end Mine
theorem Mine.rowsM13_8 : True := by
  (k_with "amcall" => ((with_reducible refine' Mine.CallV.n0 (Mine.a_read _ _ _ _ _ _ _ _ _ _ _ _ _ _ _ _ _ _ _ _ _ ?zp0 ?zp1 ?zp2 ?zp3 ?zp4 ?zp5 ?zp6 ?zp7 ?zp8 ?zp9 (Mine.Nw0.intro ?_)) ?zhd ?zhT); k_extra "c21"; (case zhd => decide); k_extra "c45"))
  trivial
namespace Mine
variable {w : World}
theorem a_readH (st sd rl xl fx mx sg : Addr) (so lo : Obj) (rip : Int) (ns : List Int) (op od : Addr) (oo : Obj) (rx rd : Addr) (ro : Obj) (nm : Str) (k z : Int) (hso : IsDict w so (stE rl xl fx mx sg rip)) (hi : IsIL lo ns) (hl : ns.length = 16) (hop : IsDict w oo (opE rx)) (hro : IsDict w ro (rgE nm (Str.ofString "high") k 8)) (h0 : 4 ≤ k) (h1 : k < 8) (hz0 : 0 ≤ z) (hz1 : z ≤ 64) {P : AV → Led → Prop} (h : P (.int (ns.getD (k - 4).toNat 0 / 256 % 256 % 2 ^ z.toNat)) []) : CallsN w 613 [.ref st, .ref op, .int z] [(st, instObj 651 sd), (sd, so), (rl, lo), (op, instObj 728 od), (od, oo), (rx, instObj 335 rd), (rd, ro)] 6 P := by
  refine' CallsN.of_body (ns := [Str.ofString "self", Str.ofString "operand", Str.ofString "size"]) (ds := []) (dvs := []) 5 ?zho ?zhcd ?zhdv ?zhb ?zhloc ?zhco ?zhge ?zhki ?zhcell ?zhD ?_
  k_extra "enter"
  repeat' (first | k_extra "am" | fail "end")
  all_goals exact FinN.ret0 h Takes.all
end Mine
theorem Mine.rowsM13_9 : True := by
  (k_with "amcall" => ((with_reducible refine' Mine.CallV.n0 (Mine.a_readH _ _ _ _ _ _ _ _ _ _ _ _ _ _ _ _ _ _ _ _ ?zp0 ?zp1 ?zp2 ?zp3 ?zp4 ?zp5 ?zp6 ?zp7 ?zp8 (Mine.Nw0.intro ?_)) ?zhd ?zhT); k_extra "c21"; (case zhd => decide); k_extra "c17"; k_extra "c47"))
  trivial
namespace Mine
variable {w : World}
theorem a_write (st sd rl xl fx mx sg : Addr) (so lo : Obj) (rip : Int) (ns : List Int) (op od : Addr) (oo : Obj) (rx rd : Addr) (ro : Obj) (nm : Str) (k n z x : Int) (hso : IsDict w so (stE rl xl fx mx sg rip)) (hi : IsIL lo ns) (hl : ns.length = 16) (hop : IsDict w oo (opE rx)) (hro : IsDict w ro (rgE nm (Str.ofString "gpr") k n)) (h0 : 0 ≤ k) (h1 : k < 16) (hn : n = 8 ∨ n = 16 ∨ n = 32 ∨ n = 64) {P : AV → Obj → Prop} (h : ∀ o', IsIL o' (ns.set k.toNat (rset (ns.getD k.toNat 0) x n)) → P .none o') : CallsT w 620 [.ref st, .ref op, .int z, .int x] [(st, instObj 651 sd), (sd, so), (rl, lo), (op, instObj 728 od), (od, oo), (rx, instObj 335 rd), (rd, ro)] rl 7 P := by
  refine' CallsT.of_body (ns := [Str.ofString "self", Str.ofString "operand", Str.ofString "size", Str.ofString "worth"]) (ds := []) (dvs := []) 6 ?zhU ?zho ?zhcd ?zhdv ?zhb ?zhloc ?zhco ?zhge ?zhki ?zhcell ?zhD ?_
  (case zhU => k_extra "put")
  k_extra "enter"
  repeat' (first | k_extra "am" | fail "end")
  all_goals exact FinT.next (h _ (by assumption)) Takes.all
end Mine
theorem Mine.rowsM13_10 : True := by
  (k_with "amcall" => ((with_reducible refine' Mine.CallV.t (Mine.a_write _ _ _ _ _ _ _ _ _ _ _ _ _ _ _ _ _ _ _ _ _ _ ?zp0 ?zp1 ?zp2 ?zp3 ?zp4 ?zp5 ?zp6 ?zp7 (fun o' ho' => ?_)) ?zhd ?zhT ?zhU); k_extra "c21"; k_extra "c22"; k_extra "c17"; (case zp7 => first | assumption | decide)))
  trivial
namespace Mine
variable {w : World}
theorem a_writeH (st sd rl xl fx mx sg : Addr) (so lo : Obj) (rip : Int) (ns : List Int) (op od : Addr) (oo : Obj) (rx rd : Addr) (ro : Obj) (nm : Str) (k z x : Int) (hso : IsDict w so (stE rl xl fx mx sg rip)) (hi : IsIL lo ns) (hl : ns.length = 16) (hop : IsDict w oo (opE rx)) (hro : IsDict w ro (rgE nm (Str.ofString "high") k 8)) (h0 : 4 ≤ k) (h1 : k < 8) {P : AV → Obj → Prop} (h : ∀ o', IsIL o' (ns.set (k - 4).toNat (rsetH (ns.getD (k - 4).toNat 0) x)) → P .none o') : CallsT w 620 [.ref st, .ref op, .int z, .int x] [(st, instObj 651 sd), (sd, so), (rl, lo), (op, instObj 728 od), (od, oo), (rx, instObj 335 rd), (rd, ro)] rl 7 P := by
  refine' CallsT.of_body (ns := [Str.ofString "self", Str.ofString "operand", Str.ofString "size", Str.ofString "worth"]) (ds := []) (dvs := []) 6 ?zhU ?zho ?zhcd ?zhdv ?zhb ?zhloc ?zhco ?zhge ?zhki ?zhcell ?zhD ?_
  (case zhU => k_extra "put")
  k_extra "enter"
  repeat' (first | k_extra "am" | fail "end")
  all_goals exact FinT.next (h _ (by assumption)) Takes.all
end Mine
theorem Mine.rowsM13_11 : True := by
  (k_with "amcall" => ((with_reducible refine' Mine.CallV.t (Mine.a_writeH _ _ _ _ _ _ _ _ _ _ _ _ _ _ _ _ _ _ _ _ _ ?zp0 ?zp1 ?zp2 ?zp3 ?zp4 ?zp5 ?zp6 (fun o' ho' => ?_)) ?zhd ?zhT ?zhU); k_extra "c21"; k_extra "c22"; k_extra "c17"))
  trivial
namespace Mine
inductive TakeR : Led → Led → Led → Prop
  | nil {led} : TakeR [] led led
  | cons {q sub led led' rest} : Rem q led led' → TakeR sub led' rest → TakeR (q :: sub) led rest
theorem TakeR.perm {sub led rest : Led} (t : TakeR sub led rest) : led.Perm (sub ++ rest) := by
  induction t with
  | nil => exact .refl _
  | cons h _ ih => exact h.perm.trans (ih.cons _)
def CallsG (w : World) (f : Addr) (vs : List AV) (sub : Led) (d : Nat) (P : AV → Led → Prop) : Prop :=
  (sub.map (·.1)).Nodup → ∀ us, VIs vs us → ∀ (p : Program) (loose : List Str) (mean : ExcName → Option Value) (mg mb : Str → Option Value) (dp un : Nat) (gd : Option (List Code)) (cn : Str) (cs : Scope) (a : Addr) (ccd : Value) (cl : List (Str × Addr)) (outer : List Env) (A₀ : Around) (base h₀ : Heap) (L : Addr) (m : Str → Option Value) (s : Shared) (R : Result → Shared → Prop),
    Below A₀ base outer h₀ → Fr h₀ L s.heap m → (K w.params).In h₀ → News h₀ L s.heap sub → Top p loose mean mg mb h₀ → cs.kind = .function → dp + d < recursionLimit → un + 8 * d < cLine →
    (∀ a v nw h' tk', a.Is v → P a nw → Fr h₀ L h' m → News h₀ L h' nw → (nw.map (·.1)).Nodup → (∀ q ∈ nw, q.1 ∈ sub.map (·.1) ∨ s.heap.get? q.1 = none) → (∀ a o, s.heap.get? a = some o → a ∉ sub.map (·.1) → h'.get? a = some o) → R (.ok (.ret v)) { s with heap := h', toks := tk' }) →
    codeAny (model PW w) (ktrTop dp un gd cn cs L a ccd cl outer) (.call (.ref f) ⟨us, []⟩) R s
variable {w : World} {S : Scope} {D : Nat}
section calls
variable {c : Cx w S D} {l : Locs} {led sub rest : Led} {P : AV → Led → Prop} {f : Addr} {vs : List AV} {d : Nat} {C fI : Addr}
theorem keep_rest {g h h' : Heap} {L : Addr} {led nw : Led} (hp : led.Perm (sub ++ rest)) (nd : (led.map (·.1)).Nodup) (hN : News g L h led) (N' : News g L h' nw) (nd' : (nw.map (·.1)).Nodup) (fr : ∀ q ∈ nw, q.1 ∈ sub.map (·.1) ∨ h.get? q.1 = none)
    (kp : ∀ a o, h.get? a = some o → a ∉ sub.map (·.1) → h'.get? a = some o) : News g L h' (nw ++ rest) ∧ ((nw ++ rest).map (·.1)).Nodup := by
  have n := (hp.map (·.1)).nodup_iff.mp nd
  rw [List.map_append, List.nodup_append] at n
  have hr : ∀ q ∈ rest, q ∈ led := fun q hq => hp.mem_iff.mpr (List.mem_append_right _ hq)
  have off : ∀ q ∈ rest, q.1 ∉ sub.map (·.1) := fun q hq hm => n.2.2 _ hm _ (List.mem_map_of_mem hq) rfl
  refine ⟨fun q hq => ?_, ?_⟩
  · rcases List.mem_append.mp hq with h | h
    · exact N' q h
    · exact ⟨kp _ _ (hN q (hr q h)).1 (off q h), (hN q (hr q h)).2⟩
  · rw [List.map_append, List.nodup_append]
    refine ⟨nd', n.2.1, fun x hx y hy e => ?_⟩
    obtain ⟨q, hq, rfl⟩ := List.mem_map.mp hx
    obtain ⟨q', hq', rfl⟩ := List.mem_map.mp hy
    rcases fr q hq with h | h
    · exact off q' hq' (e ▸ h)
    · have := (hN q' (hr q' hq')).1
      rw [← e, h] at this
      cases this
theorem sub_nd {led : Led} (hp : led.Perm (sub ++ rest)) (nd : (led.map (·.1)).Nodup) : (sub.map (·.1)).Nodup := by
  have n := (hp.map (·.1)).nodup_iff.mp nd
  rw [List.map_append, List.nodup_append] at n
  exact n.1
theorem CallV.g (C : CallsG w f vs sub d fun v nw => P v (nw ++ rest)) (hd : d ≤ D) (T : TakeR sub led rest) : CallV c l (.ref f) vs led P := fun us hv s Q E hA hQ => by
  obtain ⟨m, F, hl⟩ := hA.fr
  have hp := T.perm
  refine wpAny_call (C (sub_nd hp hA.nd) us hv c.p c.loose c.mean c.mg c.mb c.dp c.un c.gd c.cn S c.a c.ccd c.cl c.outer c.A₀ c.base c.g c.L m s _ c.B F c.X (fun q hq => hA.nw q (hp.mem_iff.mpr (List.mem_append_left _ hq))) c.T c.hk (Nat.lt_of_le_of_lt (Nat.add_le_add_left hd _) c.hd) (Nat.lt_of_le_of_lt (Nat.add_le_add_left (Nat.mul_le_mul_left 8 hd) _) c.hu) ?_)
  intro a v nw h' tk' i hP F' N' nd fr kp
  obtain ⟨N2, nd2⟩ := keep_rest hp hA.nd hA.nw N' nd fr kp
  exact hQ a _ v h' tk' hP i ⟨⟨m, F', hl⟩, N2, nd2⟩
theorem CallV.clsG (k1 : makesIn (K w.params) C = true) (k2 : findIn (K w.params) (.ref C) "__init__" = some (some (.ref fI))) (k3 : isFn (K w.params) (.ref fI) = true) (hd : d + 1 ≤ D) (T : TakeR sub led rest)
    (h : ∀ x dx, CallsG w fI (.ref x :: vs) ((x, instObj C dx) :: (dx, dictOf [] 0) :: sub) d fun v nw => NnV v (P (.ref x) (nw ++ rest))) : CallV c l (.ref C) vs led P := fun us hv s Q E hA hQ => by
  obtain ⟨⟨m, F, hl⟩, N, nd⟩ := hA
  have hp := T.perm
  refine call_cls F c.X N k1 k2 k3 fun x dx h' F' N' h1 h2 => ?_
  have nd1 : ∀ p ∈ led, p.1 ≠ dx := fun p hp e => absurd (h1 p hp) (by rw [e]; exact Nat.lt_irrefl _)
  have nd2 : ∀ p ∈ led, p.1 ≠ x := fun p hp e => absurd (Nat.lt_trans (h1 p hp) h2) (by rw [e]; exact Nat.lt_irrefl _)
  have ndl : ((((x, instObj C dx) :: (dx, dictOf [] 0) :: led : Led)).map (·.1)).Nodup := by
    rw [List.map_cons, List.map_cons, List.nodup_cons, List.nodup_cons]
    refine ⟨fun hm => ?_, fun hm => ?_, nd⟩
    · rcases List.mem_cons.mp hm with e | hm
      · exact Nat.lt_irrefl x (by have e' : x = dx := e; exact (e' ▸ h2 : x < x))
      · obtain ⟨p, hp, e⟩ := List.mem_map.mp hm; exact nd2 p hp e
    · obtain ⟨p, hp, e⟩ := List.mem_map.mp hm; exact nd1 p hp e
  have hp2 : ((x, instObj C dx) :: (dx, dictOf [] 0) :: led : Led).Perm (((x, instObj C dx) :: (dx, dictOf [] 0) :: sub) ++ rest) := (hp.cons _).cons _
  have hu := c.hu
  have hdd := c.hd
  refine h x dx (sub_nd hp2 ndl) (.ref x :: us) ⟨rfl, hv⟩ c.p c.loose c.mean c.mg c.mb (c.dp + 1) (c.un + 1) c.gd c.cn S c.a c.ccd c.cl c.outer c.A₀ c.base c.g c.L m { s with heap := h' } _ c.B F' c.X (fun q hq => ?_) c.T c.hk (by omega) (by omega) fun a v nw h3 tk3 i hP F3 N3 nd3 fr kp => ?_
  · exact N' q (by have := hp2.mem_iff.mpr (List.mem_append_left rest hq); exact this)
  · obtain ⟨rfl, hP⟩ := hP
    obtain rfl : v = .none := i
    obtain ⟨N4, nd4⟩ := keep_rest hp2 ndl N' N3 nd3 fr kp
    exact ⟨rfl, hQ _ _ _ h3 tk3 hP rfl ⟨⟨m, F3, hl⟩, N4, nd4⟩⟩
end calls
def FinG (P : AV → Led → Prop) : Out → Locs → Led → Prop := fun o _ led => ∃ a nw, o.Val a ∧ P a nw ∧ Takes nw led
theorem FinG.ret {led nw : Led} {P : AV → Led → Prop} {a : AV} {l : Locs} (h : P a nw) (t : Takes nw led) : FinG P (.ret a) l led := ⟨a, nw, rfl, h, t⟩
theorem FinG.next {led nw : Led} {P : AV → Led → Prop} {l : Locs} (h : P .none nw) (t : Takes nw led) : FinG P .next l led := ⟨_, nw, rfl, h, t⟩
section entry
variable {f : Addr} {vs : List AV} {sub : Led} {name qual : Str} {params : Arguments} {body : List Stmt} {dV kV doc pm cdv ct oc : Value} {an od : Option Addr} {osl : Array (Option Value)} {ns : List Str} {ds : List Value} {dvs : List AV}
theorem CallsG.of_body {P : AV → Led → Prop} (D : Nat) {d : Nat} (ho : (K w.params).lookup f = some ⟨oc, od, .func (fnOf name qual params body S dV kV doc pm an cdv ct), osl⟩) (hcd : codeIn (K w.params) cdv qual = true)
    (hdv : VIs dvs ds) (hb : ForV vs.length fun us => ∀ s : Shared, (K w.params).In s.heap → BindsTo s (fnOf name qual params body S dV kV doc pm an cdv ct) ⟨us, []⟩ (ns.zip (us ++ ds))) (hloc : (ns.all fun x => decide (S.names.lookup x = some .local)) = true)
    (hco : S.isCoroutine = false) (hgen : S.isGenerator = false) (hk : S.kind = .function) (hcell : ∀ x ∈ S.names, x.2 ≠ .cell) (hD : D + 1 ≤ d)
    (h : ∀ c : Cx w S D, Run c (ns.zip (vs ++ dvs)).reverse sub body (FinG P)) : CallsG w f vs sub d P := by
  intro nd us hv p loose mean mg mb dp un gd cn cs a ccd cl outer A₀ base h₀ L m s R B F X N T hkc hd hu hret
  refine code_defS (binds := ns.zip (us ++ ds)) B F X N T rfl rfl hkc ho hcd (Nat.lt_of_le_of_lt (Nat.le_add_right _ _) hd) (ForV.use hb hv s (X.keeps F.keep)) (fun y hy => ?_) (fun g L' h₁ FG F' N' B' X' T' GX => ?_) hco hgen hk hcell
  · exact of_decide_eq_true (List.all_eq_true.mp hloc _ (List.of_mem_zip hy).1)
  · refine h ⟨p, loose, mean, mg, mb, dp + 1, un + 3, gd, qual, f, cdv, [], envX cn cs L a ccd cl :: outer, _, base, g, L', B', X', T', hk, by omega, by omega⟩ _ _ _ PassesOwn.leaving ⟨⟨_, F', BIs.look (BIs.rev (BIs.zip (hv.app hdv)))⟩, N', nd⟩ (fun o l' led' fl h' tk' hP hfl hA => ?_)
    obtain ⟨av, nw, ha, hP, ht⟩ := hP
    obtain ⟨m'', F'', _⟩ := hA.fr
    have hm : ∀ q ∈ sub, q.1 ∈ sub.map (·.1) := fun q hq => List.mem_map_of_mem hq
    refine leaveK_ F'' hA.nw fun F3 N3 => hret av _ nw h' tk' (flow_val hfl ha) hP F3 (fun q hq => N3 q (ht.mem q hq)) (ht.nd hA.nd) ?_ ?_
    · intro q hq
      by_cases hq' : q.1 ∈ sub.map (·.1)
      · exact .inl hq'
      · refine .inr ?_
        cases e : s.heap.get? q.1 with
        | none => rfl
        | some o =>
          have := GX q.1 o e fun p hp he => hq' (by have := hm p hp; rwa [he] at this)
          rw [(hA.nw q (ht.mem q hq)).2.2] at this
          cases this
    · intro b o e hn
      exact F''.keep _ _ (GX b o e fun p hp he => hn (by have := hm p hp; rwa [he] at this))
end entry
end Mine
theorem Mine.rows14 : True := by
  (k_with "taker" => first | exact Mine.TakeR.nil | (refine' Mine.TakeR.cons ?zta ?ztb; (case zta => k_extra "rem"); (case ztb => k_extra "taker")))
  trivial
namespace Mine
variable {w : World} {S : Scope} {D : Nat}
section lists
variable {c : Cx w S D} {l : Locs} {led : Led} {P : AV → Led → Prop} {a b : Addr} {o o2 : Obj} {vs : List AV} {x : AV}
theorem Bin.consLs (h1 : (a, o) ∈ led) (i1 : IsLs o [x]) (h2 : (b, o2) ∈ led) (i2 : IsLs o2 vs) (hz : Nat.ble (x :: vs).length 1000 = true) (h : ∀ D' o', IsLs o' (x :: vs) → P (.ref D') ((D', o') :: led)) : Bin c l .Add (.ref a) (.ref b) led P := fun u v hu hv s Q E hA hQ => by
  obtain rfl : u = .ref a := hu
  obtain rfl : v = .ref b := hv
  obtain ⟨us, n, rfl, hs⟩ := i1
  obtain ⟨us2, n2, rfl, hs2⟩ := i2
  obtain ⟨⟨m, F, hl⟩, N, nd⟩ := hA
  have hs3 : VIs (x :: vs) (us ++ us2) := hs.app hs2
  refine kmk_add_lit F N (N.isList h1) (N.isList h2) (zs := us ++ us2) rfl (fun D' h' F' N' hD => hQ _ _ _ h' s.toks (h D' _ ⟨_, 0, rfl, hs3⟩) rfl (At.cons F' hl N' hD nd)) ?_
  have := hs3.len
  rw [List.length_append] at this
  rw [this]
  exact Nat.le_trans (Nat.le_of_ble_eq_true hz) (Nat.le_of_ble_eq_true rfl)
end lists
end Mine
theorem Mine.rows14b : True := by
  (k_with "ambin" => ((with_reducible refine' Mine.Bin.consLs ?zh1 ?zi1 ?zh2 ?zi2 ?zhz ?_); k_extra "c13"; (case zhz => assumption); intro l' o' ho'))
  (k_with "amcall" => ((with_reducible refine' Mine.CallV.tupleLs ?zho ?zhi ?zhz ?_); k_extra "c5"; (case zhz => first | assumption | exact rfl); intro t' o' ho'))
  (k_with "amcall" => ((with_reducible refine' Mine.CallV.listTp ?zho ?zhi ?zhz ?_); k_extra "c5"; (case zhz => first | assumption | exact rfl); intro l' o' ho'))
  trivial
namespace Mine
variable {w : World}
theorem a_initOp728 (x dx : Addr) (kd : Str) {P : AV → Obj → Prop} (h : ∀ o', IsDict w o' ([(Str.ofString "kind", .str kd)]) → P .none o') : CallsT w 669 (.ref x :: [.str kd]) ((x, instObj 728 dx) :: (dx, dictOf [] 0) :: []) dx 1 P := by
  refine' CallsT.of_body (ns := [Str.ofString "self", Str.ofString "kind"]) (ds := []) (dvs := []) 0 ?zhU ?zho ?zhcd ?zhdv ?zhb ?zhloc ?zhco ?zhge ?zhki ?zhcell ?zhD ?_
  (case zhU => k_extra "put")
  k_extra "enter"
  repeat' (first | k_extra "am" | fail "end")
  all_goals exact FinT.next (h _ (by assumption)) Takes.all
end Mine
theorem Mine.rowsM15_1 : True := by
  (k_with "amcall" => ((with_reducible refine' Mine.CallV.t (Mine.a_initOp728 _ _ _ (fun o' ho' => ?_)) ?zhd ?zhT ?zhU); k_extra "c56"))
  trivial
namespace Mine
variable {w : World}
theorem a_initOp769 (x dx : Addr) (kd : Str) {P : AV → Obj → Prop} (h : ∀ o', IsDict w o' ([(Str.ofString "kind", .str kd)]) → P .none o') : CallsT w 669 (.ref x :: [.str kd]) ((x, instObj 769 dx) :: (dx, dictOf [] 0) :: []) dx 1 P := by
  refine' CallsT.of_body (ns := [Str.ofString "self", Str.ofString "kind"]) (ds := []) (dvs := []) 0 ?zhU ?zho ?zhcd ?zhdv ?zhb ?zhloc ?zhco ?zhge ?zhki ?zhcell ?zhD ?_
  (case zhU => k_extra "put")
  k_extra "enter"
  repeat' (first | k_extra "am" | fail "end")
  all_goals exact FinT.next (h _ (by assumption)) Takes.all
end Mine
theorem Mine.rowsM15_2 : True := by
  (k_with "amcall" => ((with_reducible refine' Mine.CallV.t (Mine.a_initOp769 _ _ _ (fun o' ho' => ?_)) ?zhd ?zhT ?zhU); k_extra "c56"))
  trivial
namespace Mine
variable {w : World}
theorem a_initOp822 (x dx : Addr) (kd : Str) {P : AV → Obj → Prop} (h : ∀ o', IsDict w o' ([(Str.ofString "kind", .str kd)]) → P .none o') : CallsT w 669 (.ref x :: [.str kd]) ((x, instObj 822 dx) :: (dx, dictOf [] 0) :: []) dx 1 P := by
  refine' CallsT.of_body (ns := [Str.ofString "self", Str.ofString "kind"]) (ds := []) (dvs := []) 0 ?zhU ?zho ?zhcd ?zhdv ?zhb ?zhloc ?zhco ?zhge ?zhki ?zhcell ?zhD ?_
  (case zhU => k_extra "put")
  k_extra "enter"
  repeat' (first | k_extra "am" | fail "end")
  all_goals exact FinT.next (h _ (by assumption)) Takes.all
end Mine
theorem Mine.rowsM15_3 : True := by
  (k_with "amcall" => ((with_reducible refine' Mine.CallV.t (Mine.a_initOp822 _ _ _ (fun o' ho' => ?_)) ?zhd ?zhT ?zhU); k_extra "c56"))
  trivial
namespace Mine
variable {w : World}
theorem a_initReg (x dx : Addr) (r : Addr) {P : AV → Obj → Prop} (h : ∀ o', IsDict w o' (opE r) → P .none o') : CallsT w 711 (.ref x :: [.ref r]) ((x, instObj 728 dx) :: (dx, dictOf [] 0) :: []) dx 2 P := by
  refine' CallsT.of_body (ns := [Str.ofString "self", Str.ofString "register"]) (ds := []) (dvs := []) 1 ?zhU ?zho ?zhcd ?zhdv ?zhb ?zhloc ?zhco ?zhge ?zhki ?zhcell ?zhD ?_
  (case zhU => k_extra "put")
  k_extra "enter"
  repeat' (first | k_extra "am" | fail "end")
  all_goals exact FinT.next (h _ (by assumption)) Takes.all
end Mine
theorem Mine.rowsM15_4 : True := by
  (k_with "amcall" => ((with_reducible refine' Mine.CallV.cls (C := 728) (fI := 711) (sub := []) (d := 2) ?zk1 ?zk2 ?zk3 ?zhd ?zhT fun x' dx' => Mine.a_initReg _ _ _ fun o' ho' => Mine.NnV.intro ?_); k_extra "c24"))
  trivial
namespace Mine
variable {w : World}
theorem a_initRel (x dx : Addr) (n : Int) {P : AV → Obj → Prop} (h : ∀ o', IsDict w o' (relE n) → P .none o') : CallsT w 745 (.ref x :: [.int n]) ((x, instObj 769 dx) :: (dx, dictOf [] 0) :: []) dx 2 P := by
  refine' CallsT.of_body (ns := [Str.ofString "self", Str.ofString "worth", Str.ofString "name"]) (ds := [.str (Str.ofString "") 1205]) (dvs := [.str (Str.ofString "")]) 1 ?zhU ?zho ?zhcd ?zhdv ?zhb ?zhloc ?zhco ?zhge ?zhki ?zhcell ?zhD ?_
  (case zhU => k_extra "put")
  k_extra "enter"
  repeat' (first | k_extra "am" | fail "end")
  all_goals exact FinT.next (h _ (by assumption)) Takes.all
end Mine
theorem Mine.rowsM15_5 : True := by
  (k_with "amcall" => ((with_reducible refine' Mine.CallV.cls (C := 769) (fI := 745) (sub := []) (d := 2) ?zk1 ?zk2 ?zk3 ?zhd ?zhT fun x' dx' => Mine.a_initRel _ _ _ fun o' ho' => Mine.NnV.intro ?_); k_extra "c24"))
  trivial
namespace Mine
variable {w : World}
theorem a_initMem (x dx : Addr) (n : Int) {P : AV → Obj → Prop} (h : ∀ o', IsDict w o' (mmE n) → P .none o') : CallsT w 786 (.ref x :: [.none, .none, .int 1, .int n, .int 8]) ((x, instObj 822 dx) :: (dx, dictOf [] 0) :: []) dx 2 P := by
  refine' CallsT.of_body (ns := [Str.ofString "self", Str.ofString "base", Str.ofString "index", Str.ofString "scale", Str.ofString "worth", Str.ofString "size", Str.ofString "segment", Str.ofString "name"]) (ds := [.str (Str.ofString "") 1256, .str (Str.ofString "") 1257]) (dvs := [.str (Str.ofString ""), .str (Str.ofString "")]) 1 ?zhU ?zho ?zhcd ?zhdv ?zhb ?zhloc ?zhco ?zhge ?zhki ?zhcell ?zhD ?_
  (case zhU => k_extra "put")
  k_extra "enter"
  repeat' (first | k_extra "am" | fail "end")
  all_goals exact FinT.next (h _ (by assumption)) Takes.all
end Mine
theorem Mine.rowsM15_6 : True := by
  (k_with "amcall" => ((with_reducible refine' Mine.CallV.cls (C := 822) (fI := 786) (sub := []) (d := 2) ?zk1 ?zk2 ?zk3 ?zhd ?zhT fun x' dx' => Mine.a_initMem _ _ _ fun o' ho' => Mine.NnV.intro ?_); k_extra "c24"))
  trivial
namespace Mine
variable {w : World}
theorem a_initIns (x dx t : Addr) (nm : Str) (o : Obj) (vs : List AV) (ho : IsLs o vs) (hz : Nat.ble vs.length 1000 = true) {P : AV → Led → Prop} (h : ∀ tx to o', IsTp to vs → IsDict w o' (insE nm tx) → P .none [(x, instObj 875 dx), (dx, o'), (tx, to), (t, o)]) : CallsG w 839 (.ref x :: [.str nm, .ref t]) ((x, instObj 875 dx) :: (dx, dictOf [] 0) :: [(t, o)]) 2 P := by
  refine' CallsG.of_body (ns := [Str.ofString "self", Str.ofString "name", Str.ofString "operands", Str.ofString "prefix"]) (ds := [.str (Str.ofString "") 1331]) (dvs := [.str (Str.ofString "")]) 1 ?zho ?zhcd ?zhdv ?zhb ?zhloc ?zhco ?zhge ?zhki ?zhcell ?zhD ?_
  k_extra "enter"
  repeat' (first | k_extra "am" | fail "end")
  all_goals exact FinG.next (h _ _ _ (by assumption) (by assumption)) (by k_extra "take")
end Mine
namespace Mine
variable {w : World}
theorem a_sizeOf (st : AV) (op od : Addr) (oo : Obj) (rx rd : Addr) (ro : Obj) (nm : Str) (kd : Str) (k n : Int) (ix id tx : Addr) (io to : Obj) (nx : Str) (vs : List AV)  (hop : IsDict w oo (opE rx)) (hro : IsDict w ro (rgE nm kd k n)) (hio : IsDict w io (insE nx tx)) (hto : IsTp to vs) (hz1 : Nat.ble vs.length 1000 = true) (hz2 : Nat.ble (AV.ref op :: vs).length 1000 = true)  {P : AV → Led → Prop} (h : P (.int n) []) : CallsN w 606 [st, .ref op, .ref ix] [(op, instObj 728 od), (od, oo), (rx, instObj 335 rd), (rd, ro), (ix, instObj 875 id), (id, io), (tx, to)] 2 P := by
  refine' CallsN.of_body (ns := [Str.ofString "self", Str.ofString "operand", Str.ofString "instruction"]) (ds := []) (dvs := []) 1 ?zho ?zhcd ?zhdv ?zhb ?zhloc ?zhco ?zhge ?zhki ?zhcell ?zhD ?_
  k_extra "enter"
  repeat' (first | k_extra "am" | fail "end")
  all_goals exact FinN.ret0 h (by k_extra "take")
end Mine
namespace Mine
variable {w : World}
theorem a_sizeOfM (st : AV) (op od : Addr) (oo : Obj) (ix id tx : Addr) (io to : Obj) (nx : Str) (vs : List AV)  (x : Int) (hop : IsDict w oo (mmE x)) (hio : IsDict w io (insE nx tx)) (hto : IsTp to vs) (hz1 : Nat.ble vs.length 1000 = true) (hz2 : Nat.ble (AV.ref op :: vs).length 1000 = true)  {P : AV → Led → Prop} (h : P (.int 8) []) : CallsN w 606 [st, .ref op, .ref ix] [(op, instObj 822 od), (od, oo), (ix, instObj 875 id), (id, io), (tx, to)] 2 P := by
  refine' CallsN.of_body (ns := [Str.ofString "self", Str.ofString "operand", Str.ofString "instruction"]) (ds := []) (dvs := []) 1 ?zho ?zhcd ?zhdv ?zhb ?zhloc ?zhco ?zhge ?zhki ?zhcell ?zhD ?_
  k_extra "enter"
  repeat' (first | k_extra "am" | fail "end")
  all_goals exact FinN.ret0 h (by k_extra "take")
end Mine
namespace Mine
variable {w : World}
section r16
variable {S : Scope} {D : Nat} {c : Cx w S D} {l : Locs} {led : Led} {P : AV → Led → Prop} {a : Addr} {o : Obj} {x : Str} {vs : List AV} {ys : List Str}
theorem Cmp.notinTp (ho : (a, o) ∈ led) (hi : IsTp o vs) (hy : StrL vs ys) (h : P (.bool (!(ys.any fun z => z == x))) led) : Cmp c l .NotIn (.str x) (.ref a) led P := fun u v hu hv s Q E hA hQ => by
  obtain ⟨t, rfl⟩ := hu
  obtain rfl : v = .ref a := hv
  obtain ⟨us, rfl, hs⟩ := hi
  exact notin_tuple_strs (hA.nw.isTup ho) (VIs.strs (hy.eq ▸ hs)) (hQ _ _ _ s.heap s.toks h rfl hA)
end r16
abbrev cmE (A B n af d : Int) : Locs := flE (if A - B < 0 then 1 else 0) (1 - popc ((A - B) % 2 ^ n.toNat % 256) % 2) af (if (A - B) % 2 ^ n.toNat = 0 then 1 else 0) ((A - B) % 2 ^ n.toNat / 2 ^ (n - 1).toNat % 2) (Builtin.bitAnd (Builtin.bitXor A B) (Builtin.bitXor A ((A - B) % 2 ^ n.toNat)) / 2 ^ (n - 1).toNat % 2) d
theorem cmE_of {o : Obj} {x y n A B d af : Int} (h : IsDict w o (cmE (x % 2 ^ n.toNat) (y % 2 ^ n.toNat) n af d)) (e1 : x % 2 ^ n.toNat = A) (e2 : y % 2 ^ n.toNat = B) : IsDict w o (cmE A B n af d) := by
  rw [e1, e2] at h; exact h
end Mine
theorem Mine.rowsM16_1 : True := by
  (k_with "amcmp" => ((with_reducible first | (refine' Mine.Cmp.notinTp ?zho ?zhi ?zhy (Mine.BoolV.intro ?_)) | (refine' Mine.Cmp.notinTp ?zho ?zhi ?zhy ?_)); k_extra "c5"; (case zhy => k_extra "strl")))
  trivial
namespace Mine
variable {w : World}
theorem a_comb (fx fd : Addr) (fo : Obj) (c p a z sf f d x y n : Int) (hfo : IsDict w fo (flE c p a z sf f d)) (h4 : 4 ≤ n) (h64 : n ≤ 64) {P : AV → Obj → Prop} (h : ∀ o' af v, IsDict w o' (cmE (x % 2 ^ n.toNat) (y % 2 ^ n.toNat) n af d) → P (.int v) o') : CallsT w 374 [.ref fx, .str (Str.ofString "cmp"), .int x, .int y, .int n] [(fx, instObj 202 fd), (fd, fo)] fd 8 P := by
  refine' CallsT.of_body (ns := [Str.ofString "flags", Str.ofString "name", Str.ofString "a", Str.ofString "b", Str.ofString "size"]) (ds := []) (dvs := []) 7 ?zhU ?zho ?zhcd ?zhdv ?zhb ?zhloc ?zhco ?zhge ?zhki ?zhcell ?zhD ?_
  (case zhU => k_extra "put")
  k_extra "enter"
  repeat' (first | k_extra "am" | fail "end")
  all_goals exact FinT.ret (h _ _ _ (by assumption)) (by k_extra "take")
end Mine
theorem Mine.rowsM16_2 : True := by
  (k_with "amcall" => ((with_reducible refine' Mine.CallV.t (Mine.a_comb _ _ _ _ _ _ _ _ _ _ _ _ _ ?zp0 ?zp1 ?zp2 (fun o' af' v' ho' => ?_)) ?zhd (Mine.Takes.cons ?zt1 (Mine.Takes.cons ?zt2 Mine.Takes.nil)) ?zhU); k_extra "c30"; (case zp0 => k_extra "dict"); (case zhU => k_extra "put"); k_extra "c38"; (case zhd => decide)))
  trivial
theorem Mine.rowsM16_3 : True := by
  (k_with "amcall" => ((with_reducible refine' Mine.CallV.n0 (Mine.a_sizeOf _ _ _ _ _ _ _ _ _ _ _ _ _ _ _ _ _ _ ?zp0 ?zp1 ?zp2 ?zp3 ?zp4 ?zp5 (Mine.Nw0.intro ?_)) ?zhd (Mine.Takes.cons ?zt1 (Mine.Takes.cons ?zt2 (Mine.Takes.cons ?zt3 (Mine.Takes.cons ?zt4 (Mine.Takes.cons ?zt5 (Mine.Takes.cons ?zt6 (Mine.Takes.cons ?zt7 Mine.Takes.nil)))))))); k_extra "c15"; (case zt5 => k_extra "rem"); (case zt6 => k_extra "rem"); (case zp2 => k_extra "dict"); (case zt7 => k_extra "rem"); (case zp3 => assumption); (case zp4 => exact rfl); (case zp5 => exact rfl); (case zhd => decide)))
  (k_with "amcall" => ((with_reducible refine' Mine.CallV.n0 (Mine.a_sizeOfM _ _ _ _ _ _ _ _ _ _ _ _ ?zp0 ?zp1 ?zp2 ?zp3 ?zp4 (Mine.Nw0.intro ?_)) ?zhd (Mine.Takes.cons ?zt1 (Mine.Takes.cons ?zt2 (Mine.Takes.cons ?zt3 (Mine.Takes.cons ?zt4 (Mine.Takes.cons ?zt5 Mine.Takes.nil)))))); k_extra "c15"; (case zt5 => k_extra "rem"); (case zp2 => assumption); (case zp3 => exact rfl); (case zp4 => exact rfl); (case zhd => decide)))
  trivial
theorem Mine.rowsM16_4 : True := by
  (k_with "amcall" => ((with_reducible refine' Mine.CallV.n0 (Mine.a_read _ _ _ _ _ _ _ _ _ _ _ _ _ _ _ _ _ _ _ _ _ ?zp0 ?zp1 ?zp2 ?zp3 ?zp4 ?zp5 ?zp6 ?zp7 ?zp8 ?zp9 (Mine.Nw0.intro ?_)) ?zhd (Mine.Takes.cons ?zt1 (Mine.Takes.cons ?zt2 (Mine.Takes.cons ?zt3 (Mine.Takes.cons ?zt4 (Mine.Takes.cons ?zt5 (Mine.Takes.cons ?zt6 (Mine.Takes.cons ?zt7 Mine.Takes.nil)))))))); k_extra "c19"; k_extra "c45"; (case zhd => decide)))
  (k_with "amcall" => ((with_reducible refine' Mine.CallV.n0 (Mine.a_readH _ _ _ _ _ _ _ _ _ _ _ _ _ _ _ _ _ _ _ _ ?zp0 ?zp1 ?zp2 ?zp3 ?zp4 ?zp5 ?zp6 ?zp7 ?zp8 (Mine.Nw0.intro ?_)) ?zhd (Mine.Takes.cons ?zt1 (Mine.Takes.cons ?zt2 (Mine.Takes.cons ?zt3 (Mine.Takes.cons ?zt4 (Mine.Takes.cons ?zt5 (Mine.Takes.cons ?zt6 (Mine.Takes.cons ?zt7 Mine.Takes.nil)))))))); k_extra "c19"; k_extra "c17"; k_extra "c47"; (case zhd => decide)))
  (k_with "amcall" => ((with_reducible refine' Mine.CallV.t (Mine.a_write _ _ _ _ _ _ _ _ _ _ _ _ _ _ _ _ _ _ _ _ _ _ ?zp0 ?zp1 ?zp2 ?zp3 ?zp4 ?zp5 ?zp6 ?zp7 (fun o' ho' => ?_)) ?zhd (Mine.Takes.cons ?zt1 (Mine.Takes.cons ?zt2 (Mine.Takes.cons ?zt3 (Mine.Takes.cons ?zt4 (Mine.Takes.cons ?zt5 (Mine.Takes.cons ?zt6 (Mine.Takes.cons ?zt7 Mine.Takes.nil))))))) ?zhU); k_extra "c41"; (case zp7 => first | assumption | decide); (case zhd => decide)))
  (k_with "amcall" => ((with_reducible refine' Mine.CallV.t (Mine.a_writeH _ _ _ _ _ _ _ _ _ _ _ _ _ _ _ _ _ _ _ _ _ ?zp0 ?zp1 ?zp2 ?zp3 ?zp4 ?zp5 ?zp6 (fun o' ho' => ?_)) ?zhd (Mine.Takes.cons ?zt1 (Mine.Takes.cons ?zt2 (Mine.Takes.cons ?zt3 (Mine.Takes.cons ?zt4 (Mine.Takes.cons ?zt5 (Mine.Takes.cons ?zt6 (Mine.Takes.cons ?zt7 Mine.Takes.nil))))))) ?zhU); k_extra "c41"; (case zhd => decide)))
  trivial
namespace Mine
variable {w : World}
theorem a_two (st sd rl xl fx mx sg : Addr) (so lo : Obj) (rip : Int) (ns : List Int) (fd id ix tx : Addr) (fo io to : Obj) (c p a z sf f d n : Int) (o1 d1 r1 e1 : Addr) (oo1 ro1 : Obj) (nm1 : Str) (k1 : Int) (o2 d2 r2 e2 : Addr) (oo2 ro2 : Obj) (nm2 : Str) (k2 : Int)  (hso : IsDict w so (stE rl xl fx mx sg rip)) (hi : IsIL lo ns) (hl : ns.length = 16) (hfo : IsDict w fo (flE c p a z sf f d)) (hio : IsDict w io (insE (Str.ofString "cmp") tx)) (hto : IsTp to [.ref o1, .ref o2]) (ho1 : IsDict w oo1 (opE r1)) (hr1 : IsDict w ro1 (rgE nm1 (Str.ofString "gpr") k1 n)) (h10 : 0 ≤ k1) (h11 : k1 < 16) (ho2 : IsDict w oo2 (opE r2)) (hr2 : IsDict w ro2 (rgE nm2 (Str.ofString "gpr") k2 n)) (h20 : 0 ≤ k2) (h21 : k2 < 16) (hn : n = 8 ∨ n = 16 ∨ n = 32 ∨ n = 64) {P : AV → Obj → Prop} (h : ∀ o' af, IsDict w o' (cmE (ns.getD k1.toNat 0 % 2 ^ n.toNat) (ns.getD k2.toNat 0 % 2 ^ n.toNat) n af d) → P .none o') : CallsT w 381 [.ref st, .ref ix] [(st, instObj 651 sd), (sd, so), (rl, lo), (fx, instObj 202 fd), (fd, fo), (ix, instObj 875 id), (id, io), (tx, to), (o1, instObj 728 d1), (d1, oo1), (r1, instObj 335 e1), (e1, ro1), (o2, instObj 728 d2), (d2, oo2), (r2, instObj 335 e2), (e2, ro2)] fd 9 P := by
  have hn0 : 0 ≤ n := by omega
  have hn4 : 4 ≤ n := by omega
  have hn64 : n ≤ 64 := by omega
  refine' CallsT.of_body (ns := [Str.ofString "state", Str.ofString "instruction"]) (ds := []) (dvs := []) 8 ?zhU ?zho ?zhcd ?zhdv ?zhb ?zhloc ?zhco ?zhge ?zhki ?zhcell ?zhD ?_
  (case zhU => k_extra "put")
  k_extra "enter"
  repeat' (first | k_extra "am" | fail "end")
  all_goals exact FinT.next (h _ _ (cmE_of (by assumption) (by simp only [Int.emod_emod]) (by simp only [Int.emod_emod]))) (by k_extra "take")
end Mine
theorem Mine.rowsM16_5 : True := by
  (k_with "amcall" => ((with_reducible refine' Mine.CallV.t (Mine.a_two _ _ _ _ _ _ _ _ _ _ _ _ _ _ _ _ _ _ _ _ _ _ _ _ _ _ _ _ _ _ _ _ _ _ _ _ _ _ _ _ _ _ ?zp0 ?zp1 ?zp2 ?zp3 ?zp4 ?zp5 ?zp6 ?zp7 ?zp8 ?zp9 ?zp10 ?zp11 ?zp12 ?zp13 ?zp14 (fun o' af' ho' => ?_)) ?zhd (Mine.Takes.cons ?zt1 (Mine.Takes.cons ?zt2 (Mine.Takes.cons ?zt3 (Mine.Takes.cons ?zt4 (Mine.Takes.cons ?zt5 (Mine.Takes.cons ?zt6 (Mine.Takes.cons ?zt7 (Mine.Takes.cons ?zt8 (Mine.Takes.cons ?zt9 (Mine.Takes.cons ?zt10 (Mine.Takes.cons ?zt11 (Mine.Takes.cons ?zt12 (Mine.Takes.cons ?zt13 (Mine.Takes.cons ?zt14 (Mine.Takes.cons ?zt15 (Mine.Takes.cons ?zt16 Mine.Takes.nil)))))))))))))))) ?zhU); k_extra "c25"))
  trivial
namespace Mine
variable {w : World}
theorem a_arithCmp (st sd rl xl fx mx sg : Addr) (so lo : Obj) (rip : Int) (ns : List Int) (fd id ix tx : Addr) (fo io to : Obj) (c p a z sf f d n : Int) (o1 d1 r1 e1 : Addr) (oo1 ro1 : Obj) (nm1 : Str) (k1 : Int) (o2 d2 r2 e2 : Addr) (oo2 ro2 : Obj) (nm2 : Str) (k2 : Int)  (hso : IsDict w so (stE rl xl fx mx sg rip)) (hi : IsIL lo ns) (hl : ns.length = 16) (hfo : IsDict w fo (flE c p a z sf f d)) (hio : IsDict w io (insE (Str.ofString "cmp") tx)) (hto : IsTp to [.ref o1, .ref o2]) (ho1 : IsDict w oo1 (opE r1)) (hr1 : IsDict w ro1 (rgE nm1 (Str.ofString "gpr") k1 n)) (h10 : 0 ≤ k1) (h11 : k1 < 16) (ho2 : IsDict w oo2 (opE r2)) (hr2 : IsDict w ro2 (rgE nm2 (Str.ofString "gpr") k2 n)) (h20 : 0 ≤ k2) (h21 : k2 < 16) (hn : n = 8 ∨ n = 16 ∨ n = 32 ∨ n = 64) {P : AV → Obj → Prop} (h : ∀ o' af, IsDict w o' (cmE (ns.getD k1.toNat 0 % 2 ^ n.toNat) (ns.getD k2.toNat 0 % 2 ^ n.toNat) n af d) → P (.bool true) o') : CallsT w 430 [.ref st, .ref ix] [(st, instObj 651 sd), (sd, so), (rl, lo), (fx, instObj 202 fd), (fd, fo), (ix, instObj 875 id), (id, io), (tx, to), (o1, instObj 728 d1), (d1, oo1), (r1, instObj 335 e1), (e1, ro1), (o2, instObj 728 d2), (d2, oo2), (r2, instObj 335 e2), (e2, ro2)] fd 10 P := by
  refine' CallsT.of_body (ns := [Str.ofString "state", Str.ofString "instruction"]) (ds := []) (dvs := []) 9 ?zhU ?zho ?zhcd ?zhdv ?zhb ?zhloc ?zhco ?zhge ?zhki ?zhcell ?zhD ?_
  (case zhU => k_extra "put")
  k_extra "enter"
  repeat' (first | k_extra "am" | fail "end")
  all_goals exact FinT.ret (h _ _ (by assumption)) (by k_extra "take")
end Mine
theorem Mine.rowsM16_6 : True := by
  (k_with "amcall" => ((with_reducible refine' Mine.CallV.t (Mine.a_arithCmp _ _ _ _ _ _ _ _ _ _ _ _ _ _ _ _ _ _ _ _ _ _ _ _ _ _ _ _ _ _ _ _ _ _ _ _ _ _ _ _ _ _ ?zp0 ?zp1 ?zp2 ?zp3 ?zp4 ?zp5 ?zp6 ?zp7 ?zp8 ?zp9 ?zp10 ?zp11 ?zp12 ?zp13 ?zp14 (fun o' af' ho' => ?_)) ?zhd (Mine.Takes.cons ?zt1 (Mine.Takes.cons ?zt2 (Mine.Takes.cons ?zt3 (Mine.Takes.cons ?zt4 (Mine.Takes.cons ?zt5 (Mine.Takes.cons ?zt6 (Mine.Takes.cons ?zt7 (Mine.Takes.cons ?zt8 (Mine.Takes.cons ?zt9 (Mine.Takes.cons ?zt10 (Mine.Takes.cons ?zt11 (Mine.Takes.cons ?zt12 (Mine.Takes.cons ?zt13 (Mine.Takes.cons ?zt14 (Mine.Takes.cons ?zt15 (Mine.Takes.cons ?zt16 Mine.Takes.nil)))))))))))))))) ?zhU); k_extra "c25"))
  trivial
namespace Mine
variable {w : World} {S : Scope} {D : Nat}
noncomputable def ForR (c : Cx w S D) (x : Str) (body rest : List Stmt) (R : Out → Locs → Led → Prop) : Nat → Nat → Locs → Led → Prop
  | 0, _, l, led => Run c l led rest R
  | k + 1, i, l, led => ∀ q : Addr × Obj, ∃ f : AV → Locs, PutL x l f ∧ Run c (f (.int (i : Int))) (q :: led) body fun o l' led' => match o with
    | .ret u => R (.ret u) l' led'
    | .next => ∃ led'', Rem q led' led'' ∧ ForR c x body rest R k (i + 1) l' led''
def ForRS (c : Cx w S D) (x : Str) (body rest : List Stmt) (R : Out → Locs → Led → Prop) (q : Addr × Obj) (k i : Nat) : Out → Locs → Led → Prop := fun o l' led' => match o with
    | .ret u => R (.ret u) l' led'
    | .next => ∃ led'', Rem q led' led'' ∧ ForR c x body rest R k (i + 1) l' led''
def IsRgO (o : Obj) (n : Nat) : Prop := (∃ t u v : Tok, o = { cls := .type "range", dict := none, data := .fields #[.int 0 t, .int (n : Int) u, .int 1 v], slots := #[] }) ∧ Builtin.Range.small 0 (n : Int) 1 = true ∧ Builtin.Range.rangeSize 0 (n : Int) 1 = (n : Int)
def RngV (v : AV) (led : Led) (X : Nat → Prop) : Prop := ∃ (r : Addr) (o : Obj) (n : Nat), v = .ref r ∧ (r, o) ∈ led ∧ IsRgO o n ∧ X n
section fors
variable {c : Cx w S D} {l : Locs} {led : Led} {P : AV → Led → Prop} {R : Out → Locs → Led → Prop} {x : Str} {pos px : Pos} {body rest : List Stmt} {q : Addr × Obj} {v : AV} {k i n : Nat} {r : Addr} {o : Obj}
theorem RngV.intro {X : Nat → Prop} (h1 : (r, o) ∈ led) (h2 : IsRgO o n) (h : X n) : RngV (.ref r) led X := ⟨r, o, n, rfl, h1, h2, h⟩
theorem ForR.nil (h : Run c l led rest R) : ForR c x body rest R 0 i l led := h
theorem ForR.cons {f : AV → Locs} (hf : PutL x l f) (h : ∀ q, Run c (f (.int (i : Int))) (q :: led) body (ForRS c x body rest R q k i)) : ForR c x body rest R (k + 1) i l led := fun q => ⟨f, hf, h q⟩
theorem ForRS.next {led'' : Led} (hr : Rem q led led'') (h : ForR c x body rest R k (i + 1) l led'') : ForRS c x body rest R q k i .next l led := ⟨led'', hr, h⟩
theorem ForRS.ret (h : R (.ret v) l led) : ForRS c x body rest R q k i (.ret v) l led := h
theorem forR_rest {s : Shared} {Q : Flow → Shared → Prop} {E : Value → Shared → Prop} {I : Addr} (hE : PassesOwn (model PW w) c.A c.env E)
    (hQ : ∀ o l' led' f h' tk', R o l' led' → o.Is f → At c.g c.L h' l' led' → Q f { s with heap := h', toks := tk' }) :
    ∀ {k i : Nat} {l : Locs} {led : Led} {m : Str → Option Value}, (∀ x v, l.lookup x = some v → ∃ u, m x = some u ∧ v.Is u) → (led.map (·.1)).Nodup → (∀ p ∈ led, p.1 ≠ I) → ForR c x body rest R k i l led →
      RangeRest PW w c.A E c.g c.env x body (fun f s' => match f with | .next => wpAny (model PW w) c.A (execs rest c.env) Q E s' | f => Q f s') s I 0 n k i m led
  | 0, i, l, led, m, hl, nd, hI, h => fun h' tk F N => h { s with heap := h', toks := tk } Q E hE ⟨⟨m, F, hl⟩, N, nd⟩ fun o l' led' f h2 tk2 hR ho hA => hQ o l' led' f h2 tk2 hR ho hA
  | k + 1, i, l, led, m, hl, nd, hI, h => by
    refine RangeRest.succ fun t h' tk F N => ?_
    rw [Int.zero_add] at F
    obtain ⟨f, hf, hb⟩ := h (I, itR (0 + ((i + 1 : Nat) : Int)) ((n : Int) - ((i + 1 : Nat) : Int)))
    refine hb { s with heap := h', toks := tk } _ E hE ⟨⟨_, F, loc_put hf (show (AV.int (i : Int)).Is _ from ⟨t, rfl⟩) hl⟩, N, ?_⟩ fun o l' led' fl h3 tk3 hP ho hA => ?_
    · rw [List.map_cons, List.nodup_cons]
      exact ⟨fun hm => by obtain ⟨p, hp, e⟩ := List.mem_map.mp hm; exact hI p hp e, nd⟩
    · cases o with
      | ret r => obtain ⟨u', rfl, hr⟩ := ho; exact hQ _ _ _ _ h3 tk3 hP ⟨u', rfl, hr⟩ hA
      | next =>
        obtain rfl : fl = .next := ho
        obtain ⟨led'', hr, hF⟩ := hP
        obtain ⟨⟨m3, F3, hl3⟩, N3, nd3⟩ := hA
        have pm := hr.perm
        have nd4 := (pm.map (·.1)).nodup_iff.mp nd3
        rw [List.map_cons, List.nodup_cons] at nd4
        have off : ∀ p ∈ led'', p.1 ≠ I := fun p hp e => nd4.1 (by have := List.mem_map_of_mem (f := (·.1)) hp; rwa [e] at this)
        exact ⟨h3, tk3, m3, led'', rfl, F3, fun p hp => N3 p (pm.mem_iff.mpr hp), off, forR_rest hE hQ hl3 nd4.2 off hF⟩
theorem Run.forRange {iter : PySem.Expr} (hx : S.names.lookup x = some .local) (h : Ev c l led iter fun v led' => RngV v led' fun n => ForR c x body rest R n 0 l led')
    (hf : ∀ v, foldedSetIterable iter c.env v = pure v) : Run c l led (.For (.Name x px) iter body [] pos :: rest) R := fun s Q E hE hA hQ => by
  refine wpAny_execs_cons (For_invV c.g hx (by rw [show c.env.scope.kind = _ from c.hk]; rfl) (h s _ E hA fun v led' u h1 tk1 hP hv hA1 => ?_) hf hE)
  obtain ⟨r, o, n, rfl, hm, ⟨⟨t, u', v', rfl⟩, h2, h3⟩, hF⟩ := hP
  obtain rfl : u = .ref r := hv
  obtain ⟨⟨m, F, hl⟩, N, nd⟩ := hA1
  exact iter_rangeUnr rfl (N _ hm).1 h2 h3 F N fun I hI => forR_rest (s := { s with heap := h1, toks := tk1 }) hE hQ hl nd (fun p hp => Nat.ne_of_lt (hI p hp)) hF
theorem CallV.range1 {a : Int} (he : a = (n : Int)) (h2 : Builtin.Range.small 0 (n : Int) 1 = true) (h3 : Builtin.Range.rangeSize 0 (n : Int) 1 = (n : Int)) (h : ∀ D' o, IsRgO o n → P (.ref D') ((D', o) :: led)) : CallV c l (.type "range") [.int a] led P := fun us hv s Q E hA hQ => by
  match us, hv with
  | [_], ⟨⟨t, rfl⟩, _⟩ =>
  obtain ⟨⟨m, F, hl⟩, N, nd⟩ := hA
  subst he
  exact call_range_1 (hQ _ _ _ _ _ (h _ _ ⟨⟨_, _, _, rfl⟩, h2, h3⟩) rfl (At.cons (F.push _) hl (News.push F N _) (fun p hp => Heap.lt_size (N p hp).1) nd))
end fors
end Mine
namespace Mine
variable {w : World} {S : Scope} {D : Nat}
theorem Put.to_updF {d : Addr} {o : Obj} {led : Led} {g : Obj → Led} (h : Put d o led g) (n : (led.map (·.1)).Nodup) : UpdF d o led g := by
  induction h with
  | head =>
    rw [List.map_cons, List.nodup_cons] at n
    exact .head fun p hp e => n.1 (e ▸ List.mem_map_of_mem (f := (·.1)) hp)
  | @tail p r g h ih =>
    rw [List.map_cons, List.nodup_cons] at n
    exact .tail (fun e => n.1 (by have := List.mem_map_of_mem (f := (·.1)) h.mem; rw [e]; exact this)) (ih n.2)
section dicts
variable {c : Cx w S D} {l : Locs} {led : Led} {P : AV → Led → Prop} {R : Out → Locs → Led → Prop} {x : Str} {pos px cpos fpos apos : Pos} {body rest : List Stmt} {a : Addr} {o : Obj} {b i : PySem.Expr} {kk xx : Int} {Dl : List (Int × Int)} {g : Obj → Led}
def SetD (w : World) (v y z : AV) (led : Led) (X : Led → Prop) : Prop := ∃ (a : Addr) (o : Obj) (Dl : List (Int × Int)) (g : Obj → Led) (kk x : Int), v = .int x ∧ y = .ref a ∧ z = .int kk ∧ Put a o led g ∧ IsHd w o Dl ∧ Dl.length ≤ 16 ∧ ∀ o', IsHd w o' (hput kk x Dl) → X (g o')
theorem SetD.intro {X : Led → Prop} (h1 : Put a o led g) (h2 : IsHd w o Dl) (h3 : Dl.length ≤ 16) (h : ∀ o', IsHd w o' (hput kk xx Dl) → X (g o')) : SetD w (.int xx) (.ref a) (.int kk) led X := ⟨a, o, Dl, g, kk, xx, rfl, rfl, rfl, h1, h2, h3, h⟩
theorem Run.setd {e : PySem.Expr} {n : Str} {bpos : Pos} (h : Ev c l led e fun v led1 => Ev c l led1 (.Attribute b n bpos) fun y led2 => Ev c l led2 i fun z led3 => SetD w v y z led3 fun led4 => Run c l led4 rest R)
    (hs : swapsWith e (some (.Subscript (.Attribute b n bpos) i apos)) pos.line c.env = pure false) : Run c l led (.Assign [.Subscript (.Attribute b n bpos) i apos] e pos :: rest) R := fun s Q E hE hA hQ => by
  refine wpAny_execs_cons (wpAny_Assign_Subscript (h s _ E hA fun v led1 u1 h1 tk1 hP1 hv hA1 => hP1 _ _ E hA1 fun y led2 u2 h2 tk2 hP2 hy hA2 => hP2 _ _ E hA2 fun z led3 u3 h3 tk3 hP3 hz hA3 => ?_) hs)
  obtain ⟨a, o, Dl, g, kk, x, rfl, rfl, rfl, hU, hi, k0, hR⟩ := hP3
  obtain ⟨t1, rfl⟩ := hv
  obtain rfl : u2 = .ref a := hy
  obtain ⟨t3, rfl⟩ := hz
  obtain ⟨⟨m, F, hl⟩, N, nd⟩ := hA3
  exact hd_set hi F N (hU.to_updF nd) k0 fun h4 o4 F4 N4 hi4 => hR _ hi4 _ _ _ hE ⟨⟨m, F4, hl⟩, N4, hU.nd nd _⟩ fun o l' led'' f h5 tk5 hR5 ho5 hA5 => hQ _ _ _ _ h5 tk5 hR5 ho5 hA5
theorem Cmp.isNotN (h : P (.bool false) led) : Cmp c l .IsNot .none .none led P := fun u v hu hv s Q E hA hQ => by
  obtain rfl : u = .none := hu
  obtain rfl : v = .none := hv
  exact isnot_none_none (hQ _ _ _ s.heap s.toks h rfl hA)
theorem Run.forRng {args : List PySem.Expr} (hx : S.names.lookup x = some .local) (h : Ev c l led (.Call (.Name (Str.ofString "range") fpos) args [] cpos) fun v led' => RngV v led' fun n => ForR c x body rest R n 0 l led')
    (hf : ∀ v, foldedSetIterable (.Call (.Name (Str.ofString "range") fpos) args [] cpos) c.env v = pure v) : Run c l led (.For (.Name x px) (.Call (.Name (Str.ofString "range") fpos) args [] cpos) body [] pos :: rest) R := Run.forRange hx h hf
end dicts
end Mine
theorem Mine.rows18 : True := by
  (k_with "amX" => (with_reducible refine' Mine.ForR.nil ?_))
  (k_with "amX" => ((with_reducible refine' Mine.ForR.cons ?zhf ?_); (case zhf => k_extra "putl"); intro q))
  (k_with "amX" => ((with_reducible refine' Mine.ForRS.next ?zhr ?_); (case zhr => k_extra "rem")))
  (k_with "amX" => (with_reducible refine' Mine.ForRS.ret ?_))
  (k_with "amX" => ((with_reducible refine' Mine.RngV.intro ?zh1 ?zh2 ?_); k_extra "c31"))
  (k_with "amRun" => ((with_reducible refine' Mine.Run.forRng ?zhx ?_ ?zhf); (case zhx => kernel_rfl); (case zhf => intro; kernel_rfl)))
  (k_with "amRun" => ((with_reducible refine' Mine.Run.setd ?_ ?zhs); (case zhs => kernel_rfl)))
  (k_with "amX" => ((with_reducible refine' Mine.SetD.intro ?zh1 ?zh2 ?zh3 ?_); k_extra "c32"; (case zh3 => k_extra "dlen"); intro o' ho'))
  (k_with "amcmp" => with_reducible first | (refine' Mine.Cmp.isNotN (Mine.BoolV.intro ?_)) | (refine' Mine.Cmp.isNotN ?_))
  (k_with "amcall" => ((with_reducible refine' Mine.CallV.range1 (n := 1) ?zhe ?zh2 ?zh3 ?_); k_extra "c48"; intro r' o' ho'))
  (k_with "amcall" => ((with_reducible refine' Mine.CallV.range1 (n := 8) ?zhe ?zh2 ?zh3 ?_); k_extra "c48"; intro r' o' ho'))
  (k_with "dlen" => first | assumption | exact Nat.le_of_ble_eq_true rfl)
  (k_with "amEv" => ((with_reducible refine' Mine.Ev.callT (f := Str.ofString "range") (id := "range") ?zn ?zhv ?zhn ?zhx ?zhd ?_ ?zhs ?zha ?zhc); k_extra "c1"))
  trivial
namespace Mine
variable {w : World}
theorem nopy_of {x y : Int} (h : y.natAbs < 2 ^ 64) : Builtin.divisionGoesByPylong x y = false := by
  unfold Builtin.divisionGoesByPylong
  have h1 : (if (y == 0) = true then 0 else y.natAbs.log2 / 30 + 1) ≤ 3 := by
    split
    · omega
    · rename_i hy
      have hy' : y.natAbs ≠ 0 := fun e => hy (by rw [beq_iff_eq]; omega)
      have := (Nat.log2_lt hy').mpr h
      omega
  have h2 : decide ((if (y == 0) = true then 0 else y.natAbs.log2 / 30 + 1) > 300) = false := decide_eq_false (by omega)
  simp only [h2, Bool.false_and]
theorem put1 {k x k' x' : Int} {Dl : List (Int × Int)} {o : Obj} (h : IsHd w o (hput k x Dl)) (e1 : k = k') (e2 : x = x') : IsHd w o (hput k' x' Dl) := e1 ▸ e2 ▸ h
theorem ite01p {p : Prop} [Decidable p] : (if p then (1 : Int) else 0) = 0 ∨ (if p then (1 : Int) else 0) = 1 := by split <;> simp
theorem low8 {v : Int} (h : v = 0 ∨ v = 1) : Builtin.bitAnd (v.fdiv (2 ^ (8 * ((0 : Nat) : Int)).toNat)) 255 = v := by
  rcases h with rfl | rfl <;> decide +kernel
end Mine
theorem Mine.rowsM19_1 : True := by
  (k_with "nz" => decide)
  (k_with "nopy" => exact Mine.nopy_of (by decide))
  (k_with "mulok" => exact IntMulOk.of_left (intBits_le_64 (by omega) (by omega)))
  trivial
namespace Mine
variable {w : World}
theorem a_setOctet (mx md hd : Addr) (mo ho : Obj) (Dl : List (Int × Int)) (x v : Int) (hmo : IsDict w mo (meE hd)) (hho : IsHd w ho Dl) (hDl : Dl.length ≤ 16)  {P : AV → Obj → Prop} (h : ∀ o', IsHd w o' (hput (x % 2 ^ (64 : Int).toNat) v Dl) → P .none o') : CallsT w 472 [.ref mx, .int x, .int v] [(mx, instObj 534 md), (md, mo), (hd, ho)] hd 3 P := by
  refine' CallsT.of_body (ns := [Str.ofString "self", Str.ofString "place", Str.ofString "octet"]) (ds := []) (dvs := []) 2 ?zhU ?zho ?zhcd ?zhdv ?zhb ?zhloc ?zhco ?zhge ?zhki ?zhcell ?zhD ?_
  (case zhU => k_extra "put")
  k_extra "enter"
  repeat' (first | k_extra "am" | fail "end")
  all_goals exact FinT.next (h _ (by assumption)) (by k_extra "take")
end Mine
theorem Mine.rowsM19_2 : True := by
  (k_with "amcall" => ((with_reducible refine' Mine.CallV.t (Mine.a_setOctet _ _ _ _ _ _ _ _ ?zp0 ?zp1 ?zp2 (fun o' ho' => ?_)) ?zhd (Mine.Takes.cons ?zt1 (Mine.Takes.cons ?zt2 (Mine.Takes.cons ?zt3 Mine.Takes.nil))) ?zhU); k_extra "c44"; (case zhU => k_extra "put"); k_extra "c36"))
  trivial
namespace Mine
variable {w : World}
theorem a_memWrite (mx md hd : Addr) (mo ho : Obj) (Dl : List (Int × Int)) (x n v : Int) (hn1 : n = 1) (h01 : v = 0 ∨ v = 1) (hmo : IsDict w mo (meE hd)) (hho : IsHd w ho Dl) (hDl : Dl.length ≤ 16)  {P : AV → Obj → Prop} (h : ∀ o', IsHd w o' (hput ((x + 0) % 2 ^ (64 : Int).toNat) v Dl) → P .none o') : CallsT w 486 [.ref mx, .int x, .int n, .int v] [(mx, instObj 534 md), (md, mo), (hd, ho)] hd 4 P := by
  subst hn1
  refine' CallsT.of_body (ns := [Str.ofString "self", Str.ofString "place", Str.ofString "width", Str.ofString "worth"]) (ds := []) (dvs := []) 3 ?zhU ?zho ?zhcd ?zhdv ?zhb ?zhloc ?zhco ?zhge ?zhki ?zhcell ?zhD ?_
  (case zhU => k_extra "put")
  k_extra "enter"
  repeat' (first | k_extra "am" | fail "end")
  all_goals exact FinT.next (h _ (put1 (by assumption) (by rfl) (low8 h01))) (by k_extra "take")
end Mine
theorem Mine.rowsM19_3 : True := by
  (k_with "amcall" => ((with_reducible refine' Mine.CallV.t (Mine.a_memWrite _ _ _ _ _ _ _ _ _ ?zp0 ?zp1 ?zp2 ?zp3 ?zp4 (fun o' ho' => ?_)) ?zhd (Mine.Takes.cons ?zt1 (Mine.Takes.cons ?zt2 (Mine.Takes.cons ?zt3 Mine.Takes.nil))) ?zhU); k_extra "c30"; (case zp2 => k_extra "dict"); (case zt3 => k_extra "rem"); (case zp3 => assumption); (case zhU => k_extra "put"); (case zp0 => decide); (case zp1 => assumption); (case zp4 => assumption); (case zhd => decide)))
  trivial
namespace Mine
variable {w : World}
theorem sm64 {x : Int} (h0 : 0 ≤ x) (h1 : x < 65536) : x % 2 ^ (64 : Int).toNat = x := Int.emod_eq_of_lt h0 (Int.lt_trans h1 (by decide))
theorem castI {P : AV → Led → Prop} {x y : Int} {led : Led} (h : P (.int x) led) (e : y = x) : P (.int y) led := e ▸ h
end Mine
namespace Mine
variable {w : World}
theorem a_offset (st sd rl xl fx mx sg : Addr) (so : Obj) (rip : Int) (op od : Addr) (oo : Obj) (x : Int) (hso : IsDict w so (stE rl xl fx mx sg rip)) (hop : IsDict w oo (mmE x)) (hx0 : 0 ≤ x) (hx1 : x < 65536)  {P : AV → Led → Prop} (h : P (.int x) []) : CallsN w 592 [.ref st, .ref op] [(st, instObj 651 sd), (sd, so), (op, instObj 822 od), (od, oo)] 3 P := by
  refine' CallsN.of_body (ns := [Str.ofString "self", Str.ofString "mem"]) (ds := []) (dvs := []) 2 ?zho ?zhcd ?zhdv ?zhb ?zhloc ?zhco ?zhge ?zhki ?zhcell ?zhD ?_
  k_extra "enter"
  repeat' (first | k_extra "am" | fail "end")
  all_goals exact FinN.ret0 (castI h (sm64 hx0 hx1)) (by k_extra "take")
end Mine
theorem Mine.rowsM19_4 : True := by
  (k_with "amcall" => ((with_reducible refine' Mine.CallV.n0 (Mine.a_offset _ _ _ _ _ _ _ _ _ _ _ _ _ ?zp0 ?zp1 ?zp2 ?zp3 (Mine.Nw0.intro ?_)) ?zhd (Mine.Takes.cons ?zt1 (Mine.Takes.cons ?zt2 (Mine.Takes.cons ?zt3 (Mine.Takes.cons ?zt4 Mine.Takes.nil))))); k_extra "c15"; k_extra "c40"))
  trivial
namespace Mine
variable {w : World}
theorem a_place (st sd rl xl fx mx sg : Addr) (so : Obj) (rip : Int) (op od : Addr) (oo : Obj) (x : Int) (hso : IsDict w so (stE rl xl fx mx sg rip)) (hop : IsDict w oo (mmE x)) (hx0 : 0 ≤ x) (hx1 : x < 65536)  {P : AV → Led → Prop} (h : P (.int x) []) : CallsN w 599 [.ref st, .ref op] [(st, instObj 651 sd), (sd, so), (op, instObj 822 od), (od, oo)] 4 P := by
  refine' CallsN.of_body (ns := [Str.ofString "self", Str.ofString "mem"]) (ds := []) (dvs := []) 3 ?zho ?zhcd ?zhdv ?zhb ?zhloc ?zhco ?zhge ?zhki ?zhcell ?zhD ?_
  k_extra "enter"
  repeat' (first | k_extra "am" | fail "end")
  all_goals exact FinN.ret0 (castI h (by rw [Int.add_zero]; exact sm64 hx0 hx1)) (by k_extra "take")
end Mine
theorem Mine.rowsM19_5 : True := by
  (k_with "amcall" => ((with_reducible refine' Mine.CallV.n0 (Mine.a_place _ _ _ _ _ _ _ _ _ _ _ _ _ ?zp0 ?zp1 ?zp2 ?zp3 (Mine.Nw0.intro ?_)) ?zhd (Mine.Takes.cons ?zt1 (Mine.Takes.cons ?zt2 (Mine.Takes.cons ?zt3 (Mine.Takes.cons ?zt4 Mine.Takes.nil))))); k_extra "c15"; k_extra "c40"))
  trivial
namespace Mine
variable {w : World}
theorem a_writeM (st sd rl xl fx mx sg : Addr) (so : Obj) (rip : Int) (md hd : Addr) (mo ho : Obj) (Dl : List (Int × Int)) (op od : Addr) (oo : Obj) (x : Int) (v : Int) (h01 : v = 0 ∨ v = 1) (hso : IsDict w so (stE rl xl fx mx sg rip)) (hmo : IsDict w mo (meE hd)) (hho : IsHd w ho Dl) (hDl : Dl.length ≤ 16) (hop : IsDict w oo (mmE x)) (hx0 : 0 ≤ x) (hx1 : x < 65536)  {P : AV → Obj → Prop} (h : ∀ o', IsHd w o' (hput x v Dl) → P .none o') : CallsT w 620 [.ref st, .ref op, .int 8, .int v] [(st, instObj 651 sd), (sd, so), (mx, instObj 534 md), (md, mo), (hd, ho), (op, instObj 822 od), (od, oo)] hd 6 P := by
  refine' CallsT.of_body (ns := [Str.ofString "self", Str.ofString "operand", Str.ofString "size", Str.ofString "worth"]) (ds := []) (dvs := []) 5 ?zhU ?zho ?zhcd ?zhdv ?zhb ?zhloc ?zhco ?zhge ?zhki ?zhcell ?zhD ?_
  (case zhU => k_extra "put")
  k_extra "enter"
  repeat' (first | k_extra "am" | fail "end")
  all_goals exact FinT.next (h _ (put1 (by assumption) (by rw [Int.add_zero]; exact sm64 hx0 hx1) rfl)) (by k_extra "take")
end Mine
theorem Mine.rowsM19_6 : True := by
  (k_with "amcall" => ((with_reducible refine' Mine.CallV.t (Mine.a_writeM _ _ _ _ _ _ _ _ _ _ _ _ _ _ _ _ _ _ _ ?zp0 ?zp1 ?zp2 ?zp3 ?zp4 ?zp5 ?zp6 ?zp7 (fun o' ho' => ?_)) ?zhd (Mine.Takes.cons ?zt1 (Mine.Takes.cons ?zt2 (Mine.Takes.cons ?zt3 (Mine.Takes.cons ?zt4 (Mine.Takes.cons ?zt5 (Mine.Takes.cons ?zt6 (Mine.Takes.cons ?zt7 Mine.Takes.nil))))))) ?zhU); k_extra "c30"; (case zp1 => k_extra "dict"); (case zt3 => k_extra "rem"); (case zt4 => k_extra "rem"); (case zp2 => k_extra "dict"); (case zt5 => k_extra "rem"); (case zp3 => assumption); (case zt6 => k_extra "rem"); (case zt7 => k_extra "rem"); (case zp5 => k_extra "dict"); (case zhU => k_extra "put"); (case zp0 => first | assumption | exact Mine.ite01p); (case zp4 => assumption); (case zp6 => assumption); (case zp7 => assumption); (case zhd => decide)))
  trivial
namespace Mine
variable {w : World}
theorem ar_l0_dec : ∀ w : Fin 3, ∀ k : Fin 16, ([Str.ofString "add", Str.ofString "adc", Str.ofString "sub", Str.ofString "sbb", Str.ofString "cmp", Str.ofString "and", Str.ofString "or", Str.ofString "xor", Str.ofString "test"].any fun x => x == nm w.val k.val) = false := by decide +kernel
theorem ar_l0 {w k : Nat} (hw : w < 3) (hk : k < 16) : ([Str.ofString "add", Str.ofString "adc", Str.ofString "sub", Str.ofString "sbb", Str.ofString "cmp", Str.ofString "and", Str.ofString "or", Str.ofString "xor", Str.ofString "test"].any fun x => x == nm w k) = false := ar_l0_dec ⟨w, hw⟩ ⟨k, hk⟩
theorem ar_l1_dec : ∀ w : Fin 3, ∀ k : Fin 16, ([Str.ofString "inc", Str.ofString "dec", Str.ofString "not", Str.ofString "neg"].any fun x => x == nm w.val k.val) = false := by decide +kernel
theorem ar_l1 {w k : Nat} (hw : w < 3) (hk : k < 16) : ([Str.ofString "inc", Str.ofString "dec", Str.ofString "not", Str.ofString "neg"].any fun x => x == nm w k) = false := ar_l1_dec ⟨w, hw⟩ ⟨k, hk⟩
theorem ar_l2_dec : ∀ w : Fin 3, ∀ k : Fin 16, ([Str.ofString "clc", Str.ofString "stc", Str.ofString "cmc", Str.ofString "cld", Str.ofString "std", Str.ofString "lahf", Str.ofString "sahf"].any fun x => x == nm w.val k.val) = false := by decide +kernel
theorem ar_l2 {w k : Nat} (hw : w < 3) (hk : k < 16) : ([Str.ofString "clc", Str.ofString "stc", Str.ofString "cmc", Str.ofString "cld", Str.ofString "std", Str.ofString "lahf", Str.ofString "sahf"].any fun x => x == nm w k) = false := ar_l2_dec ⟨w, hw⟩ ⟨k, hk⟩
theorem ar_xadd_dec : ∀ w : Fin 3, ∀ k : Fin 16, (nm w.val k.val == Str.ofString "xadd") = false := by decide +kernel
theorem ar_xadd {w k : Nat} (hw : w < 3) (hk : k < 16) : (nm w k == Str.ofString "xadd") = false := ar_xadd_dec ⟨w, hw⟩ ⟨k, hk⟩
theorem ar_cmpxchg_dec : ∀ w : Fin 3, ∀ k : Fin 16, (nm w.val k.val == Str.ofString "cmpxchg") = false := by decide +kernel
theorem ar_cmpxchg {w k : Nat} (hw : w < 3) (hk : k < 16) : (nm w k == Str.ofString "cmpxchg") = false := ar_cmpxchg_dec ⟨w, hw⟩ ⟨k, hk⟩
theorem cnd_no_dec : ∀ k : Fin 16, (cnd k.val != Str.ofString "") = true := by decide +kernel
theorem cnd_no {k : Nat} (h : k < 16) : (cnd k != Str.ofString "") = true := cnd_no_dec ⟨k, h⟩
theorem castL {o : Obj} {ns ns' : List Int} (h : IsIL o ns) (e : ns = ns') : IsIL o ns' := e ▸ h
theorem ite01 {p : Prop} [Decidable p] : (if p then (1 : Int) else 0) = 0 ∨ (if p then (1 : Int) else 0) = 1 := by split <;> simp
end Mine
theorem Mine.rowsM20_1 : True := by
  (k_with "knownF" => with_reducible exact Mine.ar_l0 (by decide) (by assumption))
  (k_with "knownF" => with_reducible exact Mine.ar_l1 (by decide) (by assumption))
  (k_with "knownF" => with_reducible exact Mine.ar_l2 (by decide) (by assumption))
  (k_with "knownF" => with_reducible exact Mine.ar_xadd (by decide) (by assumption))
  (k_with "knownF" => with_reducible exact Mine.ar_cmpxchg (by decide) (by assumption))
  (k_with "knownT" => with_reducible exact Mine.cnd_no (by assumption))
  trivial
theorem Mine.rowsM20_2 : True := by
  (k_with "p01" => exact Mine.ite01)
  trivial
namespace Mine
variable {w : World}
theorem a_set8D (st sd rl xl fx mx sg : Addr) (so lo : Obj) (rip : Int) (ns : List Int) (fd id ix tx : Addr) (fo io to : Obj) (c p a z sf f d : Int) (k : Nat) (o1 d1 r1 e1 : Addr) (oo1 ro1 : Obj) (nm1 : Str) (k1 : Int)  (hso : IsDict w so (stE rl xl fx mx sg rip)) (hi : IsIL lo ns) (hl : ns.length = 16) (hfo : IsDict w fo (flE c p a z sf f d)) (hk : k < 16) (hio : IsDict w io (insE (nm 1 k) tx)) (hto : IsTp to [.ref o1]) (ho1 : IsDict w oo1 (opE r1)) (hr1 : IsDict w ro1 (rgE nm1 (Str.ofString "gpr") k1 8)) (h10 : 0 ≤ k1) (h11 : k1 < 16)  {P : AV → Obj → Prop} (h : ∀ o', IsIL o' (ns.set k1.toNat (rset (ns.getD k1.toNat 0) (if hn c p z sf f k = true then 1 else 0) 8)) → P .none o') : CallsT w 416 [.ref st, .ref ix] [(st, instObj 651 sd), (sd, so), (rl, lo), (fx, instObj 202 fd), (fd, fo), (ix, instObj 875 id), (id, io), (tx, to), (o1, instObj 728 d1), (d1, oo1), (r1, instObj 335 e1), (e1, ro1)] rl 9 P := by
  refine' CallsT.of_body (ns := [Str.ofString "state", Str.ofString "instruction"]) (ds := []) (dvs := []) 8 ?zhU ?zho ?zhcd ?zhdv ?zhb ?zhloc ?zhco ?zhge ?zhki ?zhcell ?zhD ?_
  (case zhU => k_extra "put")
  k_extra "enter"
  repeat' (first | k_extra "am" | fail "end")
  all_goals exact FinT.next (h _ (by assumption)) (by k_extra "take")
end Mine
theorem Mine.rowsM20_3 : True := by
  (k_with "amcall" => ((with_reducible refine' Mine.CallV.t (Mine.a_set8D _ _ _ _ _ _ _ _ _ _ _ _ _ _ _ _ _ _ _ _ _ _ _ _ _ _ _ _ _ _ _ _ _ _ ?zp0 ?zp1 ?zp2 ?zp3 ?zp4 ?zp5 ?zp6 ?zp7 ?zp8 ?zp9 ?zp10 (fun o' ho' => ?_)) ?zhd (Mine.Takes.cons ?zt1 (Mine.Takes.cons ?zt2 (Mine.Takes.cons ?zt3 (Mine.Takes.cons ?zt4 (Mine.Takes.cons ?zt5 (Mine.Takes.cons ?zt6 (Mine.Takes.cons ?zt7 (Mine.Takes.cons ?zt8 (Mine.Takes.cons ?zt9 (Mine.Takes.cons ?zt10 (Mine.Takes.cons ?zt11 (Mine.Takes.cons ?zt12 Mine.Takes.nil)))))))))))) ?zhU); k_extra "c42"))
  trivial
namespace Mine
variable {w : World}
theorem a_set8 (st sd rl xl fx mx sg : Addr) (so lo : Obj) (rip : Int) (ns : List Int) (fd id ix tx : Addr) (fo io to : Obj) (c p a z sf f d : Int) (k : Nat) (o1 d1 r1 e1 : Addr) (oo1 ro1 : Obj) (nm1 : Str) (k1 : Int)  (hso : IsDict w so (stE rl xl fx mx sg rip)) (hi : IsIL lo ns) (hl : ns.length = 16) (hfo : IsDict w fo (flE c p a z sf f d)) (hk : k < 16) (hio : IsDict w io (insE (nm 1 k) tx)) (hto : IsTp to [.ref o1]) (ho1 : IsDict w oo1 (opE r1)) (hr1 : IsDict w ro1 (rgE nm1 (Str.ofString "gpr") k1 8)) (h10 : 0 ≤ k1) (h11 : k1 < 16)  {P : AV → Obj → Prop} (h : ∀ o', IsIL o' (ns.set k1.toNat (rset (ns.getD k1.toNat 0) (if hn c p z sf f k = true then 1 else 0) 8)) → P (.bool true) o') : CallsT w 430 [.ref st, .ref ix] [(st, instObj 651 sd), (sd, so), (rl, lo), (fx, instObj 202 fd), (fd, fo), (ix, instObj 875 id), (id, io), (tx, to), (o1, instObj 728 d1), (d1, oo1), (r1, instObj 335 e1), (e1, ro1)] rl 10 P := by
  refine' CallsT.of_body (ns := [Str.ofString "state", Str.ofString "instruction"]) (ds := []) (dvs := []) 9 ?zhU ?zho ?zhcd ?zhdv ?zhb ?zhloc ?zhco ?zhge ?zhki ?zhcell ?zhD ?_
  (case zhU => k_extra "put")
  k_extra "enter"
  repeat' (first | k_extra "am" | fail "end")
  all_goals exact FinT.ret (h _ (by assumption)) (by k_extra "take")
end Mine
theorem Mine.rowsM20_4 : True := by
  (k_with "amcall" => ((with_reducible refine' Mine.CallV.t (Mine.a_set8 _ _ _ _ _ _ _ _ _ _ _ _ _ _ _ _ _ _ _ _ _ _ _ _ _ _ _ _ _ _ _ _ _ _ ?zp0 ?zp1 ?zp2 ?zp3 ?zp4 ?zp5 ?zp6 ?zp7 ?zp8 ?zp9 ?zp10 (fun o' ho' => ?_)) ?zhd (Mine.Takes.cons ?zt1 (Mine.Takes.cons ?zt2 (Mine.Takes.cons ?zt3 (Mine.Takes.cons ?zt4 (Mine.Takes.cons ?zt5 (Mine.Takes.cons ?zt6 (Mine.Takes.cons ?zt7 (Mine.Takes.cons ?zt8 (Mine.Takes.cons ?zt9 (Mine.Takes.cons ?zt10 (Mine.Takes.cons ?zt11 (Mine.Takes.cons ?zt12 Mine.Takes.nil)))))))))))) ?zhU); k_extra "c42"))
  trivial
namespace Mine
variable {w : World}
theorem a_setHD (st sd rl xl fx mx sg : Addr) (so lo : Obj) (rip : Int) (ns : List Int) (fd id ix tx : Addr) (fo io to : Obj) (c p a z sf f d : Int) (k : Nat) (o1 d1 r1 e1 : Addr) (oo1 ro1 : Obj) (nm1 : Str) (k1 : Int)  (hso : IsDict w so (stE rl xl fx mx sg rip)) (hi : IsIL lo ns) (hl : ns.length = 16) (hfo : IsDict w fo (flE c p a z sf f d)) (hk : k < 16) (hio : IsDict w io (insE (nm 1 k) tx)) (hto : IsTp to [.ref o1]) (ho1 : IsDict w oo1 (opE r1)) (hr1 : IsDict w ro1 (rgE nm1 (Str.ofString "high") k1 8)) (h10 : 4 ≤ k1) (h11 : k1 < 8)  {P : AV → Obj → Prop} (h : ∀ o', IsIL o' (ns.set (k1 - 4).toNat (rsetH (ns.getD (k1 - 4).toNat 0) (if hn c p z sf f k = true then 1 else 0))) → P .none o') : CallsT w 416 [.ref st, .ref ix] [(st, instObj 651 sd), (sd, so), (rl, lo), (fx, instObj 202 fd), (fd, fo), (ix, instObj 875 id), (id, io), (tx, to), (o1, instObj 728 d1), (d1, oo1), (r1, instObj 335 e1), (e1, ro1)] rl 9 P := by
  refine' CallsT.of_body (ns := [Str.ofString "state", Str.ofString "instruction"]) (ds := []) (dvs := []) 8 ?zhU ?zho ?zhcd ?zhdv ?zhb ?zhloc ?zhco ?zhge ?zhki ?zhcell ?zhD ?_
  (case zhU => k_extra "put")
  k_extra "enter"
  repeat' (first | k_extra "am" | fail "end")
  all_goals exact FinT.next (h _ (by assumption)) (by k_extra "take")
end Mine
theorem Mine.rowsM20_5 : True := by
  (k_with "amcall" => ((with_reducible refine' Mine.CallV.t (Mine.a_setHD _ _ _ _ _ _ _ _ _ _ _ _ _ _ _ _ _ _ _ _ _ _ _ _ _ _ _ _ _ _ _ _ _ _ ?zp0 ?zp1 ?zp2 ?zp3 ?zp4 ?zp5 ?zp6 ?zp7 ?zp8 ?zp9 ?zp10 (fun o' ho' => ?_)) ?zhd (Mine.Takes.cons ?zt1 (Mine.Takes.cons ?zt2 (Mine.Takes.cons ?zt3 (Mine.Takes.cons ?zt4 (Mine.Takes.cons ?zt5 (Mine.Takes.cons ?zt6 (Mine.Takes.cons ?zt7 (Mine.Takes.cons ?zt8 (Mine.Takes.cons ?zt9 (Mine.Takes.cons ?zt10 (Mine.Takes.cons ?zt11 (Mine.Takes.cons ?zt12 Mine.Takes.nil)))))))))))) ?zhU); k_extra "c42"))
  trivial
namespace Mine
variable {w : World}
theorem a_setH (st sd rl xl fx mx sg : Addr) (so lo : Obj) (rip : Int) (ns : List Int) (fd id ix tx : Addr) (fo io to : Obj) (c p a z sf f d : Int) (k : Nat) (o1 d1 r1 e1 : Addr) (oo1 ro1 : Obj) (nm1 : Str) (k1 : Int)  (hso : IsDict w so (stE rl xl fx mx sg rip)) (hi : IsIL lo ns) (hl : ns.length = 16) (hfo : IsDict w fo (flE c p a z sf f d)) (hk : k < 16) (hio : IsDict w io (insE (nm 1 k) tx)) (hto : IsTp to [.ref o1]) (ho1 : IsDict w oo1 (opE r1)) (hr1 : IsDict w ro1 (rgE nm1 (Str.ofString "high") k1 8)) (h10 : 4 ≤ k1) (h11 : k1 < 8)  {P : AV → Obj → Prop} (h : ∀ o', IsIL o' (ns.set (k1 - 4).toNat (rsetH (ns.getD (k1 - 4).toNat 0) (if hn c p z sf f k = true then 1 else 0))) → P (.bool true) o') : CallsT w 430 [.ref st, .ref ix] [(st, instObj 651 sd), (sd, so), (rl, lo), (fx, instObj 202 fd), (fd, fo), (ix, instObj 875 id), (id, io), (tx, to), (o1, instObj 728 d1), (d1, oo1), (r1, instObj 335 e1), (e1, ro1)] rl 10 P := by
  refine' CallsT.of_body (ns := [Str.ofString "state", Str.ofString "instruction"]) (ds := []) (dvs := []) 9 ?zhU ?zho ?zhcd ?zhdv ?zhb ?zhloc ?zhco ?zhge ?zhki ?zhcell ?zhD ?_
  (case zhU => k_extra "put")
  k_extra "enter"
  repeat' (first | k_extra "am" | fail "end")
  all_goals exact FinT.ret (h _ (by assumption)) (by k_extra "take")
end Mine
theorem Mine.rowsM20_6 : True := by
  (k_with "amcall" => ((with_reducible refine' Mine.CallV.t (Mine.a_setH _ _ _ _ _ _ _ _ _ _ _ _ _ _ _ _ _ _ _ _ _ _ _ _ _ _ _ _ _ _ _ _ _ _ ?zp0 ?zp1 ?zp2 ?zp3 ?zp4 ?zp5 ?zp6 ?zp7 ?zp8 ?zp9 ?zp10 (fun o' ho' => ?_)) ?zhd (Mine.Takes.cons ?zt1 (Mine.Takes.cons ?zt2 (Mine.Takes.cons ?zt3 (Mine.Takes.cons ?zt4 (Mine.Takes.cons ?zt5 (Mine.Takes.cons ?zt6 (Mine.Takes.cons ?zt7 (Mine.Takes.cons ?zt8 (Mine.Takes.cons ?zt9 (Mine.Takes.cons ?zt10 (Mine.Takes.cons ?zt11 (Mine.Takes.cons ?zt12 Mine.Takes.nil)))))))))))) ?zhU); k_extra "c42"))
  trivial
namespace Mine
variable {w : World}
theorem a_setMD (st sd rl xl fx mx sg : Addr) (so : Obj) (rip : Int) (md hd : Addr) (mo ho : Obj) (Dl : List (Int × Int)) (fd id ix tx : Addr) (fo io to : Obj) (c p a z sf f d : Int) (k : Nat) (op od : Addr) (oo : Obj) (x : Int)  (hso : IsDict w so (stE rl xl fx mx sg rip)) (hmo : IsDict w mo (meE hd)) (hho : IsHd w ho Dl) (hDl : Dl.length ≤ 16) (hfo : IsDict w fo (flE c p a z sf f d)) (hk : k < 16) (hio : IsDict w io (insE (nm 1 k) tx)) (hto : IsTp to [.ref op]) (hop : IsDict w oo (mmE x)) (hx0 : 0 ≤ x) (hx1 : x < 65536)  {P : AV → Obj → Prop} (h : ∀ o', IsHd w o' (hput x (if hn c p z sf f k = true then 1 else 0) Dl) → P .none o') : CallsT w 416 [.ref st, .ref ix] [(st, instObj 651 sd), (sd, so), (fx, instObj 202 fd), (fd, fo), (mx, instObj 534 md), (md, mo), (hd, ho), (ix, instObj 875 id), (id, io), (tx, to), (op, instObj 822 od), (od, oo)] hd 9 P := by
  refine' CallsT.of_body (ns := [Str.ofString "state", Str.ofString "instruction"]) (ds := []) (dvs := []) 8 ?zhU ?zho ?zhcd ?zhdv ?zhb ?zhloc ?zhco ?zhge ?zhki ?zhcell ?zhD ?_
  (case zhU => k_extra "put")
  k_extra "enter"
  repeat' (first | k_extra "am" | fail "end")
  all_goals exact FinT.next (h _ (by assumption)) (by k_extra "take")
end Mine
theorem Mine.rowsM20_7 : True := by
  (k_with "amcall" => ((with_reducible refine' Mine.CallV.t (Mine.a_setMD _ _ _ _ _ _ _ _ _ _ _ _ _ _ _ _ _ _ _ _ _ _ _ _ _ _ _ _ _ _ _ _ _ ?zp0 ?zp1 ?zp2 ?zp3 ?zp4 ?zp5 ?zp6 ?zp7 ?zp8 ?zp9 ?zp10 (fun o' ho' => ?_)) ?zhd (Mine.Takes.cons ?zt1 (Mine.Takes.cons ?zt2 (Mine.Takes.cons ?zt3 (Mine.Takes.cons ?zt4 (Mine.Takes.cons ?zt5 (Mine.Takes.cons ?zt6 (Mine.Takes.cons ?zt7 (Mine.Takes.cons ?zt8 (Mine.Takes.cons ?zt9 (Mine.Takes.cons ?zt10 (Mine.Takes.cons ?zt11 (Mine.Takes.cons ?zt12 Mine.Takes.nil)))))))))))) ?zhU); k_extra "c26"))
  trivial
namespace Mine
variable {w : World}
theorem a_setM (st sd rl xl fx mx sg : Addr) (so : Obj) (rip : Int) (md hd : Addr) (mo ho : Obj) (Dl : List (Int × Int)) (fd id ix tx : Addr) (fo io to : Obj) (c p a z sf f d : Int) (k : Nat) (op od : Addr) (oo : Obj) (x : Int)  (hso : IsDict w so (stE rl xl fx mx sg rip)) (hmo : IsDict w mo (meE hd)) (hho : IsHd w ho Dl) (hDl : Dl.length ≤ 16) (hfo : IsDict w fo (flE c p a z sf f d)) (hk : k < 16) (hio : IsDict w io (insE (nm 1 k) tx)) (hto : IsTp to [.ref op]) (hop : IsDict w oo (mmE x)) (hx0 : 0 ≤ x) (hx1 : x < 65536)  {P : AV → Obj → Prop} (h : ∀ o', IsHd w o' (hput x (if hn c p z sf f k = true then 1 else 0) Dl) → P (.bool true) o') : CallsT w 430 [.ref st, .ref ix] [(st, instObj 651 sd), (sd, so), (fx, instObj 202 fd), (fd, fo), (mx, instObj 534 md), (md, mo), (hd, ho), (ix, instObj 875 id), (id, io), (tx, to), (op, instObj 822 od), (od, oo)] hd 10 P := by
  refine' CallsT.of_body (ns := [Str.ofString "state", Str.ofString "instruction"]) (ds := []) (dvs := []) 9 ?zhU ?zho ?zhcd ?zhdv ?zhb ?zhloc ?zhco ?zhge ?zhki ?zhcell ?zhD ?_
  (case zhU => k_extra "put")
  k_extra "enter"
  repeat' (first | k_extra "am" | fail "end")
  all_goals exact FinT.ret (h _ (by assumption)) (by k_extra "take")
end Mine
theorem Mine.rowsM20_8 : True := by
  (k_with "amcall" => ((with_reducible refine' Mine.CallV.t (Mine.a_setM _ _ _ _ _ _ _ _ _ _ _ _ _ _ _ _ _ _ _ _ _ _ _ _ _ _ _ _ _ _ _ _ _ ?zp0 ?zp1 ?zp2 ?zp3 ?zp4 ?zp5 ?zp6 ?zp7 ?zp8 ?zp9 ?zp10 (fun o' ho' => ?_)) ?zhd (Mine.Takes.cons ?zt1 (Mine.Takes.cons ?zt2 (Mine.Takes.cons ?zt3 (Mine.Takes.cons ?zt4 (Mine.Takes.cons ?zt5 (Mine.Takes.cons ?zt6 (Mine.Takes.cons ?zt7 (Mine.Takes.cons ?zt8 (Mine.Takes.cons ?zt9 (Mine.Takes.cons ?zt10 (Mine.Takes.cons ?zt11 (Mine.Takes.cons ?zt12 Mine.Takes.nil)))))))))))) ?zhU); k_extra "c26"))
  trivial
namespace Mine
variable {w : World}
theorem a_cmovD (st sd rl xl fx mx sg : Addr) (so lo : Obj) (rip : Int) (ns : List Int) (fd id ix tx : Addr) (fo io to : Obj) (c p a z sf f d : Int) (k : Nat) (o1 d1 r1 e1 : Addr) (oo1 ro1 : Obj) (nm1 : Str) (k1 : Int) (o2 d2 r2 e2 : Addr) (oo2 ro2 : Obj) (nm2 : Str) (k2 : Int) (n : Int) (hso : IsDict w so (stE rl xl fx mx sg rip)) (hi : IsIL lo ns) (hl : ns.length = 16) (hfo : IsDict w fo (flE c p a z sf f d)) (hk : k < 16) (hio : IsDict w io (insE (nm 2 k) tx)) (hto : IsTp to [.ref o1, .ref o2]) (ho1 : IsDict w oo1 (opE r1)) (hr1 : IsDict w ro1 (rgE nm1 (Str.ofString "gpr") k1 n)) (h10 : 0 ≤ k1) (h11 : k1 < 16) (ho2 : IsDict w oo2 (opE r2)) (hr2 : IsDict w ro2 (rgE nm2 (Str.ofString "gpr") k2 n)) (h20 : 0 ≤ k2) (h21 : k2 < 16) (hsz : n = 8 ∨ n = 16 ∨ n = 32 ∨ n = 64) {P : AV → Obj → Prop} (h : ∀ o', IsIL o' (ns.set k1.toNat (rset (ns.getD k1.toNat 0) (if hn c p z sf f k = true then ns.getD k2.toNat 0 % 2 ^ n.toNat else ns.getD k1.toNat 0 % 2 ^ n.toNat) n)) → P .none o') : CallsT w 423 [.ref st, .ref ix] [(st, instObj 651 sd), (sd, so), (rl, lo), (fx, instObj 202 fd), (fd, fo), (ix, instObj 875 id), (id, io), (tx, to), (o1, instObj 728 d1), (d1, oo1), (r1, instObj 335 e1), (e1, ro1), (o2, instObj 728 d2), (d2, oo2), (r2, instObj 335 e2), (e2, ro2)] rl 9 P := by
  have hn0 : 0 ≤ n := by omega
  have hn4 : 4 ≤ n := by omega
  have hn64 : n ≤ 64 := by omega
  refine' CallsT.of_body (ns := [Str.ofString "state", Str.ofString "instruction"]) (ds := []) (dvs := []) 8 ?zhU ?zho ?zhcd ?zhdv ?zhb ?zhloc ?zhco ?zhge ?zhki ?zhcell ?zhD ?_
  (case zhU => k_extra "put")
  k_extra "enter"
  repeat' (first | k_extra "am" | fail "end")
  all_goals exact FinT.next (h _ (castL (by assumption) (by first | (rw [if_pos (by assumption)]; simp only [Int.emod_emod, rset]) | (rw [if_neg (ne_true_of_eq_false (by assumption))]; simp only [Int.emod_emod, rset])))) (by k_extra "take")
end Mine
theorem Mine.rowsM20_9 : True := by
  (k_with "amcall" => ((with_reducible refine' Mine.CallV.t (Mine.a_cmovD _ _ _ _ _ _ _ _ _ _ _ _ _ _ _ _ _ _ _ _ _ _ _ _ _ _ _ _ _ _ _ _ _ _ _ _ _ _ _ _ _ _ _ ?zp0 ?zp1 ?zp2 ?zp3 ?zp4 ?zp5 ?zp6 ?zp7 ?zp8 ?zp9 ?zp10 ?zp11 ?zp12 ?zp13 ?zp14 ?zp15 (fun o' ho' => ?_)) ?zhd (Mine.Takes.cons ?zt1 (Mine.Takes.cons ?zt2 (Mine.Takes.cons ?zt3 (Mine.Takes.cons ?zt4 (Mine.Takes.cons ?zt5 (Mine.Takes.cons ?zt6 (Mine.Takes.cons ?zt7 (Mine.Takes.cons ?zt8 (Mine.Takes.cons ?zt9 (Mine.Takes.cons ?zt10 (Mine.Takes.cons ?zt11 (Mine.Takes.cons ?zt12 (Mine.Takes.cons ?zt13 (Mine.Takes.cons ?zt14 (Mine.Takes.cons ?zt15 (Mine.Takes.cons ?zt16 Mine.Takes.nil)))))))))))))))) ?zhU); k_extra "c18"))
  trivial
namespace Mine
variable {w : World}
theorem a_cmov (st sd rl xl fx mx sg : Addr) (so lo : Obj) (rip : Int) (ns : List Int) (fd id ix tx : Addr) (fo io to : Obj) (c p a z sf f d : Int) (k : Nat) (o1 d1 r1 e1 : Addr) (oo1 ro1 : Obj) (nm1 : Str) (k1 : Int) (o2 d2 r2 e2 : Addr) (oo2 ro2 : Obj) (nm2 : Str) (k2 : Int) (n : Int) (hso : IsDict w so (stE rl xl fx mx sg rip)) (hi : IsIL lo ns) (hl : ns.length = 16) (hfo : IsDict w fo (flE c p a z sf f d)) (hk : k < 16) (hio : IsDict w io (insE (nm 2 k) tx)) (hto : IsTp to [.ref o1, .ref o2]) (ho1 : IsDict w oo1 (opE r1)) (hr1 : IsDict w ro1 (rgE nm1 (Str.ofString "gpr") k1 n)) (h10 : 0 ≤ k1) (h11 : k1 < 16) (ho2 : IsDict w oo2 (opE r2)) (hr2 : IsDict w ro2 (rgE nm2 (Str.ofString "gpr") k2 n)) (h20 : 0 ≤ k2) (h21 : k2 < 16) (hsz : n = 8 ∨ n = 16 ∨ n = 32 ∨ n = 64) {P : AV → Obj → Prop} (h : ∀ o', IsIL o' (ns.set k1.toNat (rset (ns.getD k1.toNat 0) (if hn c p z sf f k = true then ns.getD k2.toNat 0 % 2 ^ n.toNat else ns.getD k1.toNat 0 % 2 ^ n.toNat) n)) → P (.bool true) o') : CallsT w 430 [.ref st, .ref ix] [(st, instObj 651 sd), (sd, so), (rl, lo), (fx, instObj 202 fd), (fd, fo), (ix, instObj 875 id), (id, io), (tx, to), (o1, instObj 728 d1), (d1, oo1), (r1, instObj 335 e1), (e1, ro1), (o2, instObj 728 d2), (d2, oo2), (r2, instObj 335 e2), (e2, ro2)] rl 10 P := by
  refine' CallsT.of_body (ns := [Str.ofString "state", Str.ofString "instruction"]) (ds := []) (dvs := []) 9 ?zhU ?zho ?zhcd ?zhdv ?zhb ?zhloc ?zhco ?zhge ?zhki ?zhcell ?zhD ?_
  (case zhU => k_extra "put")
  k_extra "enter"
  repeat' (first | k_extra "am" | fail "end")
  all_goals exact FinT.ret (h _ (by assumption)) (by k_extra "take")
end Mine
theorem Mine.rowsM20_10 : True := by
  (k_with "amcall" => ((with_reducible refine' Mine.CallV.t (Mine.a_cmov _ _ _ _ _ _ _ _ _ _ _ _ _ _ _ _ _ _ _ _ _ _ _ _ _ _ _ _ _ _ _ _ _ _ _ _ _ _ _ _ _ _ _ ?zp0 ?zp1 ?zp2 ?zp3 ?zp4 ?zp5 ?zp6 ?zp7 ?zp8 ?zp9 ?zp10 ?zp11 ?zp12 ?zp13 ?zp14 ?zp15 (fun o' ho' => ?_)) ?zhd (Mine.Takes.cons ?zt1 (Mine.Takes.cons ?zt2 (Mine.Takes.cons ?zt3 (Mine.Takes.cons ?zt4 (Mine.Takes.cons ?zt5 (Mine.Takes.cons ?zt6 (Mine.Takes.cons ?zt7 (Mine.Takes.cons ?zt8 (Mine.Takes.cons ?zt9 (Mine.Takes.cons ?zt10 (Mine.Takes.cons ?zt11 (Mine.Takes.cons ?zt12 (Mine.Takes.cons ?zt13 (Mine.Takes.cons ?zt14 (Mine.Takes.cons ?zt15 (Mine.Takes.cons ?zt16 Mine.Takes.nil)))))))))))))))) ?zhU); k_extra "c18"))
  trivial
namespace Mine
variable {w : World}
theorem nm_ne_dec : ∀ k : Fin 16, ((["call", "ret", "jmp", "jrcxz", "loop", "loope", "loopne"] : List String).all fun x => (nm 0 k.val == Str.ofString x) == false) = true := by decide +kernel
theorem nm_ne {k : Nat} (h : k < 16) : (nm 0 k == Str.ofString "call") = false ∧ (nm 0 k == Str.ofString "ret") = false ∧ (nm 0 k == Str.ofString "jmp") = false ∧ (nm 0 k == Str.ofString "jrcxz") = false ∧ (nm 0 k == Str.ofString "loop") = false ∧ (nm 0 k == Str.ofString "loope") = false ∧ (nm 0 k == Str.ofString "loopne") = false := by
  have := nm_ne_dec ⟨k, h⟩
  simpa [List.all_cons] using this
theorem sl_0_dec : ∀ k : Fin 16, (Txt.slice (nm 0 k.val) (some (1 : Int)) none == cnd k.val) = true := by decide +kernel
theorem sl_0' {k : Nat} (h : k < 16) : Txt.slice (nm 0 k) (some (1 : Int)) none = cnd k := beq_iff_eq.mp (sl_0_dec ⟨k, h⟩)
theorem it_0_dec : ∀ k : Fin 16, (Txt.item (nm 0 k.val) 0 == Str.ofString "j") = true := by decide +kernel
theorem it_0_len : ∀ k : Fin 16, Nat.ble 1 (nm 0 k.val).length = true := by decide +kernel
section r21
variable {S : Scope} {D : Nat} {c : Cx w S D} {l : Locs} {led : Led} {P : AV → Led → Prop} {b i : PySem.Expr} {k : Nat}
theorem Sub.nm0 (hk : k < 16) (h : P (.str (Str.ofString "j")) led) (hs : ∀ t u, subscripted i false (.str (nm 0 k) t) (.int 0 u) = operate [.str (nm 0 k) t, .int 0 u] (getItem (.str (nm 0 k) t) (.int 0 u))) (ht : ∀ t r, letTemporaryGo b (.str (nm 0 k) t) r = pure ()) : Sub c l b i (.str (nm 0 k)) (.int 0) led P := fun u1 u2 hu hv s Q E hA hQ => by
  obtain ⟨t, rfl⟩ := hu
  obtain ⟨t', rfl⟩ := hv
  have h1 := Nat.le_of_ble_eq_true (it_0_len ⟨k, hk⟩)
  have h2 := nm_len (w := 0) (by decide) hk
  have e : Txt.item (nm 0 k) 0 = Str.ofString "j" := beq_iff_eq.mp (it_0_dec ⟨k, hk⟩)
  dsimp only at h1
  refine KXi.item rfl (by omega) (by omega) (Nat.le_trans h2 (Nat.le_of_ble_eq_true rfl)) (fun _ => ?_) (hs t t') (ht t)
  rw [e]; exact hQ _ _ _ s.heap (s.toks + 1) h ⟨_, rfl⟩ hA
end r21
end Mine
theorem Mine.rowsM21_1 : True := by
  (k_with "amX" => ((with_reducible refine' Mine.Sub.nm0 ?zp0 ?_ ?zhs ?zht); (case zp0 => assumption); (case zhs => (intro _ _; kernel_rfl)); (case zht => (intro _ _; kernel_rfl))))
  (k_with "slice" => with_reducible exact Mine.sl_0' (by assumption))
  (k_with "knownF" => with_reducible first | exact (Mine.nm_ne (by assumption)).1 | exact (Mine.nm_ne (by assumption)).2.1 | exact (Mine.nm_ne (by assumption)).2.2.1 | exact (Mine.nm_ne (by assumption)).2.2.2.1 | exact (Mine.nm_ne (by assumption)).2.2.2.2.1 | exact (Mine.nm_ne (by assumption)).2.2.2.2.2.1 | exact (Mine.nm_ne (by assumption)).2.2.2.2.2.2)
  trivial
namespace Mine
variable {w : World}
theorem a_target (st sd rl xl fx mx sg : Addr) (so : Obj) (rip : Int) (op od : Addr) (oo : Obj) (far : Int) (hso : IsDict w so (stE rl xl fx mx sg rip)) (hop : IsDict w oo (relE far))  {P : AV → Led → Prop} (h : P (.int ((rip + far) % 2 ^ (64 : Int).toNat)) []) : CallsN w 893 [.ref st, .ref op] [(st, instObj 651 sd), (sd, so), (op, instObj 769 od), (od, oo)] 3 P := by
  refine' CallsN.of_body (ns := [Str.ofString "state", Str.ofString "operand"]) (ds := []) (dvs := []) 2 ?zho ?zhcd ?zhdv ?zhb ?zhloc ?zhco ?zhge ?zhki ?zhcell ?zhD ?_
  k_extra "enter"
  repeat' (first | k_extra "am" | fail "end")
  all_goals exact FinN.ret0 h (by k_extra "take")
end Mine
theorem Mine.rowsM21_2 : True := by
  (k_with "amcall" => ((with_reducible refine' Mine.CallV.n0 (Mine.a_target _ _ _ _ _ _ _ _ _ _ _ _ _ ?zp0 ?zp1 (Mine.Nw0.intro ?_)) ?zhd (Mine.Takes.cons ?zt1 (Mine.Takes.cons ?zt2 (Mine.Takes.cons ?zt3 (Mine.Takes.cons ?zt4 Mine.Takes.nil))))); k_extra "c15"; (case zhd => decide)))
  trivial
namespace Mine
variable {w : World}
theorem a_taken (st sd rl xl fx mx sg : Addr) (so : Obj) (rip : Int) (fd : Addr) (fo : Obj) (c p a z sf f d : Int) (k : Nat) (hso : IsDict w so (stE rl xl fx mx sg rip)) (hfo : IsDict w fo (flE c p a z sf f d)) (hk : k < 16)  {P : AV → Led → Prop} (h : P (.bool (hn c p z sf f k)) []) : CallsN w 907 [.ref st, .str (nm 0 k)] [(st, instObj 651 sd), (sd, so), (fx, instObj 202 fd), (fd, fo)] 5 P := by
  refine' CallsN.of_body (ns := [Str.ofString "state", Str.ofString "name"]) (ds := []) (dvs := []) 4 ?zho ?zhcd ?zhdv ?zhb ?zhloc ?zhco ?zhge ?zhki ?zhcell ?zhD ?_
  k_extra "enter"
  repeat' (first | k_extra "am" | fail "end")
  all_goals exact FinN.ret0 h (by k_extra "take")
end Mine
theorem Mine.rowsM21_3 : True := by
  (k_with "amcall" => ((with_reducible refine' Mine.CallV.n0 (Mine.a_taken _ _ _ _ _ _ _ _ _ _ _ _ _ _ _ _ _ _ _ ?zp0 ?zp1 ?zp2 (Mine.Nw0.intro ?_)) ?zhd (Mine.Takes.cons ?zt1 (Mine.Takes.cons ?zt2 (Mine.Takes.cons ?zt3 (Mine.Takes.cons ?zt4 Mine.Takes.nil))))); k_extra "c15"; k_extra "c36"))
  trivial
namespace Mine
variable {w : World}
theorem a_jump (st sd rl xl fx mx sg : Addr) (so : Obj) (rip : Int) (fd : Addr) (fo : Obj) (c p a z sf f d : Int) (k : Nat) (ix id tx : Addr) (io to : Obj) (op od : Addr) (oo : Obj) (far : Int) (hso : IsDict w so (stE rl xl fx mx sg rip)) (hfo : IsDict w fo (flE c p a z sf f d)) (hk : k < 16) (hio : IsDict w io (insE (nm 0 k) tx)) (hto : IsTp to [.ref op]) (hop : IsDict w oo (relE far))  {P : AV → Obj → Prop} (h : ∀ o', IsDict w o' (stE rl xl fx mx sg (if hn c p z sf f k = true then (rip + far) % 2 ^ 64 else rip)) → P (.bool true) o') : CallsT w 914 [.ref st, .ref ix] [(st, instObj 651 sd), (sd, so), (fx, instObj 202 fd), (fd, fo), (ix, instObj 875 id), (id, io), (tx, to), (op, instObj 769 od), (od, oo)] sd 6 P := by
  refine' CallsT.of_body (ns := [Str.ofString "state", Str.ofString "instruction"]) (ds := []) (dvs := []) 5 ?zhU ?zho ?zhcd ?zhdv ?zhb ?zhloc ?zhco ?zhge ?zhki ?zhcell ?zhD ?_
  (case zhU => k_extra "put")
  k_extra "enter"
  repeat' (first | k_extra "am" | fail "end")
  all_goals exact FinT.ret (h _ (by first | (rw [if_pos (by assumption)]; assumption) | (rw [if_neg (ne_true_of_eq_false (by assumption))]; assumption))) (by k_extra "take")
end Mine
theorem Mine.rowsM21_4 : True := by
  (k_with "amcall" => ((with_reducible refine' Mine.CallV.t (Mine.a_jump _ _ _ _ _ _ _ _ _ _ _ _ _ _ _ _ _ _ _ _ _ _ _ _ _ _ _ _ ?zp0 ?zp1 ?zp2 ?zp3 ?zp4 ?zp5 (fun o' ho' => ?_)) ?zhd (Mine.Takes.cons ?zt1 (Mine.Takes.cons ?zt2 (Mine.Takes.cons ?zt3 (Mine.Takes.cons ?zt4 (Mine.Takes.cons ?zt5 (Mine.Takes.cons ?zt6 (Mine.Takes.cons ?zt7 (Mine.Takes.cons ?zt8 (Mine.Takes.cons ?zt9 Mine.Takes.nil))))))))) ?zhU); k_extra "c15"; (case zt5 => k_extra "rem"); (case zt6 => k_extra "rem"); (case zp3 => k_extra "dict"); (case zt7 => k_extra "rem"); (case zp4 => assumption); (case zt8 => k_extra "rem"); (case zt9 => k_extra "rem"); (case zp5 => k_extra "dict"); (case zhU => k_extra "put"); k_extra "c36"))
  trivial
namespace Mine
variable {w : World}
theorem a_told (fx fd : Addr) (fo : Obj) (c p a z sf f d : Int) (hfo : IsDict w fo (flE c p a z sf f d))  {P : AV → Led → Prop} (h : ∀ t o, IsTp o [.int c, .int p, .int a, .int z, .int sf, .int f, .int d] → P (.ref t) [(t, o)]) : CallsN w 150 [.ref fx] [(fx, instObj 202 fd), (fd, fo)] 2 P := by
  refine' CallsN.of_body (ns := [Str.ofString "self"]) (ds := []) (dvs := []) 1 ?zho ?zhcd ?zhdv ?zhb ?zhloc ?zhco ?zhge ?zhki ?zhcell ?zhD ?_
  k_extra "enter"
  repeat' (first | k_extra "am" | fail "end")
  all_goals exact FinN.ret (h _ _ (by assumption)) (by k_extra "take")
end Mine
theorem Mine.rowsM21_5 : True := by
  (k_with "amcall" => ((with_reducible refine' Mine.CallV.n (Mine.a_told _ _ _ _ _ _ _ _ _ _ ?zp0 (fun t' o' ho' => ?_)) ?zhd (Mine.Takes.cons ?zt1 (Mine.Takes.cons ?zt2 Mine.Takes.nil))); k_extra "c30"; (case zp0 => k_extra "dict"); (case zhd => decide)))
  trivial
namespace Mine
variable {w : World}
theorem m256 (x : Int) : x % 256 % 2 ^ (8 : Int).toNat = x % 256 := Int.emod_eq_of_lt (Int.emod_nonneg _ (by decide)) (Int.emod_lt_of_pos _ (by decide))
end Mine
namespace Mine
variable {w : World}
theorem a_wide (st sd rl xl fx mx sgm : Addr) (so lo : Obj) (rip : Int) (ns : List Int) (ix id tx : Addr) (io to : Obj) (nmx : Str) (o1 d1 r1 e1 : Addr) (oo1 ro1 : Obj) (nm1 : Str) (k1 n : Int) (o2 d2 r2 e2 : Addr) (oo2 ro2 : Obj) (nm2 : Str) (k2 z : Int)  (hso : IsDict w so (stE rl xl fx mx sgm rip)) (hi : IsIL lo ns) (hl : ns.length = 16) (hio : IsDict w io (insE nmx tx)) (hto : IsTp to [.ref o1, .ref o2]) (ho1 : IsDict w oo1 (opE r1)) (hr1 : IsDict w ro1 (rgE nm1 (Str.ofString "gpr") k1 n)) (h10 : 0 ≤ k1) (h11 : k1 < 16) (hsz : n = 8 ∨ n = 16 ∨ n = 32 ∨ n = 64) (ho2 : IsDict w oo2 (opE r2)) (hr2 : IsDict w ro2 (rgE nm2 (Str.ofString "gpr") k2 z)) (h20 : 0 ≤ k2) (h21 : k2 < 16) (hsy : z = 8 ∨ z = 16 ∨ z = 32 ∨ z = 64)  {P : AV → Obj → Prop} (h : ∀ o', IsIL o' (ns.set k1.toNat (rset (ns.getD k1.toNat 0) (if (nmx != Str.ofString "movzx") = true then sg (ns.getD k2.toNat 0 % 2 ^ z.toNat) z.toNat % 2 ^ n.toNat else (ns.getD k2.toNat 0 % 2 ^ z.toNat)) n)) → P .none o') : CallsT w 886 [.ref st, .ref ix] [(st, instObj 651 sd), (sd, so), (rl, lo), (ix, instObj 875 id), (id, io), (tx, to), (o1, instObj 728 d1), (d1, oo1), (r1, instObj 335 e1), (e1, ro1), (o2, instObj 728 d2), (d2, oo2), (r2, instObj 335 e2), (e2, ro2)] rl 8 P := by
  have hn0 : 0 ≤ n := by omega
  have hn64 : n ≤ 64 := by omega
  have hy1 : 1 ≤ z := by omega
  have hy0 : 0 ≤ z := by omega
  have hy64 : z ≤ 64 := by omega
  refine' CallsT.of_body (ns := [Str.ofString "state", Str.ofString "instruction"]) (ds := []) (dvs := []) 7 ?zhU ?zho ?zhcd ?zhdv ?zhb ?zhloc ?zhco ?zhge ?zhki ?zhcell ?zhD ?_
  (case zhU => k_extra "put")
  k_extra "enter"
  repeat' (first | k_extra "am" | fail "end")
  all_goals refine FinT.next (h _ (castL (by assumption) ?_)) (by k_extra "take")
  all_goals (first | rw [if_pos (bne_iff_ne.mpr (by assumption))] | rw [if_neg (fun q => bne_iff_ne.mp q (by assumption))]) <;> (try simp only [Int.emod_emod, m256])
end Mine
theorem Mine.rowsM21_6 : True := by
  (k_with "amcall" => ((with_reducible refine' Mine.CallV.t (Mine.a_wide _ _ _ _ _ _ _ _ _ _ _ _ _ _ _ _ _ _ _ _ _ _ _ _ _ _ _ _ _ _ _ _ _ _ _ ?zp0 ?zp1 ?zp2 ?zp3 ?zp4 ?zp5 ?zp6 ?zp7 ?zp8 ?zp9 ?zp10 ?zp11 ?zp12 ?zp13 ?zp14 (fun o' ho' => ?_)) ?zhd (Mine.Takes.cons ?zt1 (Mine.Takes.cons ?zt2 (Mine.Takes.cons ?zt3 (Mine.Takes.cons ?zt4 (Mine.Takes.cons ?zt5 (Mine.Takes.cons ?zt6 (Mine.Takes.cons ?zt7 (Mine.Takes.cons ?zt8 (Mine.Takes.cons ?zt9 (Mine.Takes.cons ?zt10 (Mine.Takes.cons ?zt11 (Mine.Takes.cons ?zt12 (Mine.Takes.cons ?zt13 (Mine.Takes.cons ?zt14 Mine.Takes.nil)))))))))))))) ?zhU); k_extra "c28"; (case zp14 => first | assumption | decide); (case zhd => decide)))
  trivial
namespace Mine
variable {w : World}
theorem a_wideH (st sd rl xl fx mx sgm : Addr) (so lo : Obj) (rip : Int) (ns : List Int) (ix id tx : Addr) (io to : Obj) (nmx : Str) (o1 d1 r1 e1 : Addr) (oo1 ro1 : Obj) (nm1 : Str) (k1 n : Int) (o2 d2 r2 e2 : Addr) (oo2 ro2 : Obj) (nm2 : Str) (k2 : Int)  (hso : IsDict w so (stE rl xl fx mx sgm rip)) (hi : IsIL lo ns) (hl : ns.length = 16) (hio : IsDict w io (insE nmx tx)) (hto : IsTp to [.ref o1, .ref o2]) (ho1 : IsDict w oo1 (opE r1)) (hr1 : IsDict w ro1 (rgE nm1 (Str.ofString "gpr") k1 n)) (h10 : 0 ≤ k1) (h11 : k1 < 16) (hsz : n = 8 ∨ n = 16 ∨ n = 32 ∨ n = 64) (ho2 : IsDict w oo2 (opE r2)) (hr2 : IsDict w ro2 (rgE nm2 (Str.ofString "high") k2 8)) (h20 : 4 ≤ k2) (h21 : k2 < 8)  {P : AV → Obj → Prop} (h : ∀ o', IsIL o' (ns.set k1.toNat (rset (ns.getD k1.toNat 0) (if (nmx != Str.ofString "movzx") = true then sg (ns.getD (k2 - 4).toNat 0 / 256 % 256) (8 : Int).toNat % 2 ^ n.toNat else (ns.getD (k2 - 4).toNat 0 / 256 % 256)) n)) → P .none o') : CallsT w 886 [.ref st, .ref ix] [(st, instObj 651 sd), (sd, so), (rl, lo), (ix, instObj 875 id), (id, io), (tx, to), (o1, instObj 728 d1), (d1, oo1), (r1, instObj 335 e1), (e1, ro1), (o2, instObj 728 d2), (d2, oo2), (r2, instObj 335 e2), (e2, ro2)] rl 8 P := by
  have hn0 : 0 ≤ n := by omega
  have hn64 : n ≤ 64 := by omega
  refine' CallsT.of_body (ns := [Str.ofString "state", Str.ofString "instruction"]) (ds := []) (dvs := []) 7 ?zhU ?zho ?zhcd ?zhdv ?zhb ?zhloc ?zhco ?zhge ?zhki ?zhcell ?zhD ?_
  (case zhU => k_extra "put")
  k_extra "enter"
  repeat' (first | k_extra "am" | fail "end")
  all_goals refine FinT.next (h _ (castL (by assumption) ?_)) (by k_extra "take")
  all_goals (first | rw [if_pos (bne_iff_ne.mpr (by assumption))] | rw [if_neg (fun q => bne_iff_ne.mp q (by assumption))]) <;> (try simp only [Int.emod_emod, m256])
end Mine
theorem Mine.rowsM21_7 : True := by
  (k_with "amcall" => ((with_reducible refine' Mine.CallV.t (Mine.a_wideH _ _ _ _ _ _ _ _ _ _ _ _ _ _ _ _ _ _ _ _ _ _ _ _ _ _ _ _ _ _ _ _ _ _ ?zp0 ?zp1 ?zp2 ?zp3 ?zp4 ?zp5 ?zp6 ?zp7 ?zp8 ?zp9 ?zp10 ?zp11 ?zp12 ?zp13 (fun o' ho' => ?_)) ?zhd (Mine.Takes.cons ?zt1 (Mine.Takes.cons ?zt2 (Mine.Takes.cons ?zt3 (Mine.Takes.cons ?zt4 (Mine.Takes.cons ?zt5 (Mine.Takes.cons ?zt6 (Mine.Takes.cons ?zt7 (Mine.Takes.cons ?zt8 (Mine.Takes.cons ?zt9 (Mine.Takes.cons ?zt10 (Mine.Takes.cons ?zt11 (Mine.Takes.cons ?zt12 (Mine.Takes.cons ?zt13 (Mine.Takes.cons ?zt14 Mine.Takes.nil)))))))))))))) ?zhU); k_extra "c28"; (case zhd => decide)))
  trivial
namespace Mine
variable {w : World}
def cntF (rs : Int) : Int := 0 + (rs.fdiv (2 ^ ((0 : Nat) : Int).toNat)).fmod 2 + (rs.fdiv (2 ^ ((0 + 1 : Nat) : Int).toNat)).fmod 2 + (rs.fdiv (2 ^ ((0 + 1 + 1 : Nat) : Int).toNat)).fmod 2 + (rs.fdiv (2 ^ ((0 + 1 + 1 + 1 : Nat) : Int).toNat)).fmod 2 + (rs.fdiv (2 ^ ((0 + 1 + 1 + 1 + 1 : Nat) : Int).toNat)).fmod 2 + (rs.fdiv (2 ^ ((0 + 1 + 1 + 1 + 1 + 1 : Nat) : Int).toNat)).fmod 2 + (rs.fdiv (2 ^ ((0 + 1 + 1 + 1 + 1 + 1 + 1 : Nat) : Int).toNat)).fmod 2 + (rs.fdiv (2 ^ ((0 + 1 + 1 + 1 + 1 + 1 + 1 + 1 : Nat) : Int).toNat)).fmod 2
def truV (b0 : Bool) (x y P lf rt rs k : Int) : Bool := if k.fmod 2 = 0 then [!b0, decide (x < y), x == y, decide (x ≤ y), decide (P ≤ rs), (cntF rs).fmod 2 == 0, decide (lf < rt), decide (lf ≤ rt)].getD (k.fdiv 2).toNat false else !([!b0, decide (x < y), x == y, decide (x ≤ y), decide (P ≤ rs), (cntF rs).fmod 2 == 0, decide (lf < rt), decide (lf ≤ rt)].getD (k.fdiv 2).toNat false)
def nearF (x n : Int) : Int := if x < 2 ^ (n - 1).toNat then x else x - 2 ^ n.toNat
def lsetF (x v n : Int) : Int := if n < 32 then x - x % 2 ^ n.toNat + v else v
def IsBL (o : Obj) (bs : List Bool) : Prop := ∃ us n, o = W.listOf (List.toArray us) n ∧ us = bs.map Value.bool
theorem IsBL.of : ∀ {bs : List Bool} {us : List Value}, VIs (bs.map AV.bool) us → us = bs.map Value.bool
  | [], [], _ => rfl
  | _ :: _, _ :: _, h => by obtain ⟨rfl, h⟩ := h; rw [IsBL.of h]; rfl
theorem nearF_hi {x n z : Int} {P : AV → Led → Prop} {led : Led} (e : nearF x n = z) (hx : 2 ^ (n - 1).toNat ≤ x) (h : P (.int z) led) : P (.int (x - 2 ^ n.toNat)) led := by rw [← e, nearF, if_neg (by omega)] at h; exact h
theorem nearF_lo {x n z : Int} {P : AV → Led → Prop} {led : Led} (e : nearF x n = z) (hx : ¬ 2 ^ (n - 1).toNat ≤ x) (h : P (.int z) led) : P (.int x) led := by rw [← e, nearF, if_pos (by omega)] at h; exact h
theorem p2pos (n : Nat) : (0 : Int) < 2 ^ n := Int.pow_pos (by decide)
section r22
variable {S : Scope} {D : Nat} {c : Cx w S D} {l : Locs} {led : Led} {P : AV → Led → Prop} {b i a e z : PySem.Expr} {i1 i2 i3 : Int} {pos : Pos} {o : Obj} {aa : Addr}
theorem Bin.modp {x y : Int} (hb : 0 < y) (h : P (.int (x % y)) led) : Bin c l .Mod (.int x) (.int y) led P := Bin.mod (by omega) (by rw [Int.fmod_eq_emod_of_nonneg _ (Int.le_of_lt hb)]; exact h)
theorem Bin.modH {x y z : Int} (e : x % y = z) (hb : 0 < y) (h : P (.int z) led) : Bin c l .Mod (.int x) (.int y) led P := Bin.modp hb (e ▸ h)
inductive BoolL : List AV → List Bool → Prop
  | nil : BoolL [] []
  | cons {x vs ys} : BoolL vs ys → BoolL (.val (.bool x) :: vs) (x :: ys)
theorem BoolL.eq {vs : List AV} {ys : List Bool} (h : BoolL vs ys) : vs = ys.map AV.bool := by
  induction h with
  | nil => rfl
  | cons _ ih => rw [ih]; rfl
theorem fd0 {k : Int} (h : 0 ≤ k) : 0 ≤ k.fdiv 2 := by rw [Int.fdiv_eq_ediv_of_nonneg _ (by decide)]; omega
theorem fd8 {k : Int} (h : k < 16) : k.fdiv 2 < 8 := by rw [Int.fdiv_eq_ediv_of_nonneg _ (by decide)]; omega
theorem fd9 {k : Int} (h : k < 16) : k.fdiv 2 < 2 ^ 63 := Int.lt_trans (fd8 h) (by decide)
theorem Ev.neg (h : Ev c l led e fun v led' => ∃ k, v = .int k ∧ P (.int (-k)) led') : Ev c l led (.UnaryOp .USub e pos) P := fun s Q E hA hQ =>
  UnaryOp_ (h s _ E hA fun v led' u h' tk' hP hv hA' => by
    obtain ⟨k, rfl, hb⟩ := hP
    obtain ⟨t, rfl⟩ := hv
    exact PySem.P.neg_int (hQ _ led' _ h' _ hb ⟨_, rfl⟩ hA'))
theorem Ev.between (ha : ∀ P : AV → Led → Prop, P (.int i1) led → Ev c l led a P) (hb : ∀ P : AV → Led → Prop, P (.int i2) led → Ev c l led b P) (hz : ∀ P : AV → Led → Prop, P (.int i3) led → Ev c l led z P)
    (h : P (.bool (decide (i1 ≤ i2) && decide (i2 < i3))) led) (hm : lastMarks [.LtE, .Lt] [b, z] = false) : Ev c l led (.Compare a [.LtE, .Lt] [b, z] pos) P := fun s Q E hA hQ => by
  refine Compare_chain (ha (fun v led' => v = .int i1 ∧ led' = led) ⟨rfl, rfl⟩ s _ E hA fun x led1 u1 h1 tk1 hP hx hA1 => ?_) hm
  obtain ⟨rfl, rfl⟩ := hP
  obtain ⟨t1, rfl⟩ := hx
  refine chain_link (hb (fun v led' => v = .int i2 ∧ led' = led1) ⟨rfl, rfl⟩ _ _ E hA1 fun y led2 u2 h2 tk2 hP hy hA2 => ?_)
  obtain ⟨rfl, rfl⟩ := hP
  obtain ⟨t2, rfl⟩ := hy
  refine le_int ?_
  refine wpAny_truthy_bool ?_
  by_cases q : i1 ≤ i2
  · rw [decide_eq_true q, Bool.true_and] at h
    rw [decide_eq_true q]
    refine (if_pos rfl).mpr (chain_last (hz (fun v led' => v = .int i3 ∧ led' = led2) ⟨rfl, rfl⟩ _ _ E hA2 fun u led4 u4 h4 tk4 hP hu hA4 => ?_))
    obtain ⟨rfl, rfl⟩ := hP
    obtain ⟨t4, rfl⟩ := hu
    exact lt_int (hQ _ _ _ h4 _ h rfl hA4)
  · rw [decide_eq_false q, Bool.false_and] at h
    rw [decide_eq_false q]
    exact (if_neg (by decide)).mpr (hQ _ _ _ h2 _ h rfl hA2)
theorem Sub.bl {bs : List Bool} {vs : List AV} (ho : (aa, o) ∈ led) (hi : IsLs o vs) (hb : BoolL vs bs) (h0 : 0 ≤ i1) (h1 : i1 < bs.length) (h2 : i1 < 2 ^ 63) (h : P (.bool (bs.getD i1.toNat false)) led) (hs : ∀ u, subscripted i false (.ref aa) (.int i1 u) = operate [.ref aa, .int i1 u] (getItem (.ref aa) (.int i1 u))) : Sub c l b i (.ref aa) (.int i1) led P := fun u1 u2 hu hv s Q E hA hQ => by
  obtain rfl : u1 = .ref aa := hu
  obtain ⟨t, rfl⟩ := hv
  obtain ⟨us, n, rfl, hvs⟩ := hi
  obtain rfl := hb.eq
  obtain rfl := IsBL.of hvs
  have hl := hA.nw.isList ho
  refine tail_any hl.typeIs slot_list_getitem.lookup (wpAny_getItem_list hl h0 h2 (x := .bool (bs.getD i1.toNat false)) ?_ (hQ _ _ _ s.heap s.toks h rfl hA)) (hs t)
  have hlt : i1.toNat < bs.length := by omega
  simp [List.getD_eq_getElem?_getD, List.getElem?_eq_getElem hlt]
end r22
end Mine
theorem Mine.rowsM22_1 : True := by
  (k_with "amEv" => ((with_reducible refine' Mine.Ev.neg ?_)))
  (k_with "amEv" => ((with_reducible refine' Mine.Ev.between ?zha ?zhb ?zhz ?_ ?zhm); (case zha => (intro P' h'; repeat' (first | with_reducible assumption | k_extra "am"))); (case zhb => (intro P' h'; repeat' (first | with_reducible assumption | k_extra "am"))); (case zhz => (intro P' h'; repeat' (first | with_reducible assumption | k_extra "am"))); (case zhm => kernel_rfl)))
  (k_with "amX" => (with_reducible refine' ⟨_, rfl, ?_⟩))
  (k_with "ambin" => ((with_reducible refine' Mine.Bin.modp ?zp ?_); (case zp => with_reducible exact Mine.p2pos _)))
  (k_with "ambin" => ((with_reducible refine' Mine.Bin.modH ?ze ?zp ?_); (case ze => with_reducible assumption); (case zp => with_reducible exact Mine.p2pos _)))
  (k_with "booll" => with_reducible first | exact Mine.BoolL.nil | (refine' Mine.BoolL.cons ?za; (case za => k_extra "booll")))
  (k_with "amX" => ((with_reducible refine' Mine.Sub.bl ?zho ?zhi ?zhb ?zq0 ?zq1 ?zq2 ?_ ?zhs); k_extra "c5"; (case zhb => k_extra "booll"); (case zq0 => exact Mine.fd0 (by assumption)); (case zq1 => exact Mine.fd8 (by assumption)); (case zq2 => exact Mine.fd9 (by assumption)); (case zhs => (intro _; kernel_rfl))))
  trivial
namespace Mine
variable {w : World}
theorem a_near (x n z : Int) (h0 : 1 ≤ n) (h1 : n ≤ 64) (hx0 : 0 ≤ x) (hx1 : x < 2 ^ 64) (e : nearF x n = z) {P : AV → Led → Prop} (h : P (.int z) []) : CallsN w 928 [.int x, .int n] [] 1 P := by
  refine' CallsN.of_body (ns := [Str.ofString "worth", Str.ofString "bits"]) (ds := []) (dvs := []) 0 ?zho ?zhcd ?zhdv ?zhb ?zhloc ?zhco ?zhge ?zhki ?zhcell ?zhD ?_
  k_extra "enter"
  repeat' (first | k_extra "am" | fail "end")
  · exact FinN.ret0 (nearF_hi e (by assumption) h) Takes.nil
  · exact FinN.ret0 (nearF_lo e (by assumption) h) Takes.nil
end Mine
theorem Mine.rowsM22_2 : True := by
  (k_with "amcall" => ((with_reducible refine' Mine.CallV.n0 (Mine.a_near _ _ _ ?zp0 ?zp1 ?zp2 ?zp3 ?zp4 (Mine.Nw0.intro ?_)) ?zhd Mine.Takes.nil); (case zp4 => first | assumption | exact rfl); k_extra "c6"; k_extra "c20"; (case zhd => decide)))
  trivial
namespace Mine
variable {w : World}
theorem a_lset (x v n : Int) (h0 : 1 ≤ n) (h1 : n ≤ 64) {P : AV → Led → Prop} (h : P (.int (lsetF x v n)) []) : CallsN w 942 [.int x, .int v, .int n] [] 1 P := by
  refine' CallsN.of_body (ns := [Str.ofString "old", Str.ofString "low", Str.ofString "bits"]) (ds := []) (dvs := []) 0 ?zho ?zhcd ?zhdv ?zhb ?zhloc ?zhco ?zhge ?zhki ?zhcell ?zhD ?_
  k_extra "enter"
  repeat' (first | k_extra "am" | fail "end")
  all_goals (unfold lsetF at h; refine FinN.ret0 ?_ Takes.nil)
  all_goals first | (rw [if_neg (by omega)] at h; exact h) | (rw [if_pos (by omega)] at h; exact h)
end Mine
theorem Mine.rowsM22_3 : True := by
  (k_with "amcall" => ((with_reducible refine' Mine.CallV.n0 (Mine.a_lset _ _ _ ?zp0 ?zp1 (Mine.Nw0.intro ?_)) ?zhd Mine.Takes.nil); k_extra "c6"; (case zhd => decide)))
  trivial
namespace Mine
variable {w : World}
theorem a_truth (x y n k : Int) (h1 : 1 ≤ n) (h64 : n ≤ 64) (hx0 : 0 ≤ x) (hx1 : x < 2 ^ 64) (hy0 : 0 ≤ y) (hy1 : y < 2 ^ 64) (hk0 : 0 ≤ k) (hk1 : k < 16) {P : AV → Led → Prop} (h : P (.bool (truV (decide (-2 ^ (n - 1).toNat ≤ nearF x n - nearF y n) && decide (nearF x n - nearF y n < 2 ^ (n - 1).toNat)) x y (2 ^ (n - 1).toNat) (nearF x n) (nearF y n) ((x - y) % 2 ^ n.toNat) k)) []) : CallsN w 935 [.int x, .int y, .int n, .int k] [] 3 P := by
  have hq1 : 0 ≤ n - 1 := by omega
  have hq2 : n - 1 ≤ 64 := by omega
  generalize e1 : nearF x n = lf at h
  generalize e2 : nearF y n = rt at h
  generalize e3 : (x - y) % 2 ^ n.toNat = rs at h
  refine' CallsN.of_body (ns := [Str.ofString "a", Str.ofString "b", Str.ofString "bits", Str.ofString "number"]) (ds := []) (dvs := []) 2 ?zho ?zhcd ?zhdv ?zhb ?zhloc ?zhco ?zhge ?zhki ?zhcell ?zhD ?_
  k_extra "enter"
  repeat' (first | k_extra "am" | fail "end")
  all_goals (unfold truV cntF at h; first | (rw [if_pos (by simpa using ‹_›)] at h; exact FinN.ret0 h Takes.nil) | (rw [if_neg (by simpa using ‹_›)] at h; exact FinN.ret0 h Takes.nil))
end Mine
theorem Mine.rowsM22_4 : True := by
  (k_with "amcall" => ((with_reducible refine' Mine.CallV.n0 (Mine.a_truth _ _ _ _ ?zp0 ?zp1 ?zp2 ?zp3 ?zp4 ?zp5 ?zp6 ?zp7 (Mine.Nw0.intro ?_)) ?zhd Mine.Takes.nil); k_extra "c39"; (case zhd => decide)))
  trivial
namespace Mine
variable {w : World}
def putO (tg : Int) (b : Bool) (ns : List Int) : List Int :=
  if tg < 16 then ns.set tg.toNat (ns.getD tg.toNat 0 - ns.getD tg.toNat 0 % 256 + (if b = true then 1 else 0))
  else if tg < 20 then ns.set (tg - 16).toNat (ns.getD (tg - 16).toNat 0 - ns.getD (tg - 16).toNat 0 % 65536 + (if b = true then 1 else 0) * 256 + ns.getD (tg - 16).toNat 0 % 256) else ns
end Mine
theorem Mine.rowsM23_1 : True := by
  (k_with "ambin" => ((with_reducible refine' Mine.Bin.modp ?zp ?_); (case zp => first | with_reducible exact Mine.p2pos _ | decide)))
  (k_with "mulok" => first | exact IntMulOk.of_right (by decide) | exact IntMulOk.of_left (intBits_le_64 (by omega) (by omega)) | exact IntMulOk.of_right (intBits_le_64 (by omega) (by omega)))
  trivial
namespace Mine
variable {w : World}
theorem a_putO (rl : Addr) (lo : Obj) (ns : List Int) (tg : Int) (b : Bool) (hi : IsIL lo ns) (hl : ns.length = 16) (h0 : 0 ≤ tg) (h1 : tg ≤ 20) {P : AV → Obj → Prop} (h : ∀ o', IsIL o' (putO tg b ns) → P .none o') : CallsT w 949 [.ref rl, .int tg, .bool b] [(rl, lo)] rl 2 P := by
  refine' CallsT.of_body (ns := [Str.ofString "worths", Str.ofString "target", Str.ofString "truth"]) (ds := []) (dvs := []) 1 ?zhU ?zho ?zhcd ?zhdv ?zhb ?zhloc ?zhco ?zhge ?zhki ?zhcell ?zhD ?_
  (case zhU => k_extra "put")
  k_extra "enter"
  repeat' (first | k_extra "am" | fail "end")
  all_goals refine FinT.next (h _ ?_) (by k_extra "take")
  all_goals first | (rw [putO, if_pos (by omega)]; assumption) | (rw [putO, if_neg (by omega), if_pos (by omega)]; assumption) | (rw [putO, if_neg (by omega), if_neg (by omega)]; assumption)
end Mine
theorem Mine.rowsM23_2 : True := by
  (k_with "amcall" => ((with_reducible refine' Mine.CallV.t (Mine.a_putO _ _ _ _ _ ?zp0 ?zp1 ?zp2 ?zp3 (fun o' ho' => ?_)) ?zhd (Mine.Takes.cons ?zt1 Mine.Takes.nil) ?zhU); k_extra "c37"))
  trivial
namespace Mine
open PyProof.V PySem.Spec
abbrev prgS : Program := PySem.Challenge.rw_nn0070_01.row.toRowW.prog
inductive SV : List (Str × Value) → List (Str × Str) → Prop
  | nil : SV [] []
  | cons {k v : Str} {t : Tok} {r : List (Str × Value)} {D : List (Str × Str)} : SV r D → SV ((k, .str v t) :: r) ((k, v) :: D)
def IsTS (w : World) (o : Obj) (D : List (Str × Str)) : Prop := ∃ kvs, o.IsDictOf (PySem.strKind prgS w) kvs ∧ SV kvs D
theorem SV.any {k : Str} {kvs : List (Str × Value)} {D : List (Str × Str)} (h : SV kvs D) : (kvs.any fun p => decide (p.1 = k)) = D.any fun p => decide (p.1 = k) := by
  induction h with
  | nil => rfl
  | cons _ ih => rw [List.any_cons, List.any_cons, ih]
theorem SV.app {k v : Str} {t : Tok} {kvs : List (Str × Value)} {D : List (Str × Str)} (h : SV kvs D) : SV (kvs ++ [(k, .str v t)]) (D ++ [(k, v)]) := by
  induction h with
  | nil => exact .cons .nil
  | cons _ ih => exact .cons ih
theorem SV.flat {kvs : List (Str × Value)} {D : List (Str × Str)} (h : SV kvs D) : FlatPairs PyData.str kvs (D.map fun p => (PyData.str p.1, PyData.str p.2)) := by
  induction h with
  | nil => exact .nil
  | cons _ ih => exact .cons (fun _ => Reads.str _ _) ih
theorem ts_new {w : World} {A : Around} {E : Value → Shared → Prop} {s : Shared} {h₀ : Heap} {L d : Addr} {m : Str → Option Value} {news : List (Addr × Obj)} {g : Obj → List (Addr × Obj)} {o : Obj} {D : List (Str × Str)} {k v : Str} {t u : Tok} {Q : Unit → Shared → Prop}
    (hD : IsTS w o D) (F : Fr h₀ L s.heap m) (N : News h₀ L s.heap news) (U : UpdF d o news g) (hnew : (D.any fun p => decide (p.1 = k)) = false) (hl : D.length ≤ 100)
    (h : ∀ h' o', Fr h₀ L h' m → News h₀ L h' (g o') → IsTS w o' (D ++ [(k, v)]) → Q () { s with heap := h', toks := s.toks + 1 }) :
    wpAny (model prgS w) A (setItem (.ref d) (.str k t) (.str v u)) Q E s := by
  obtain ⟨kvs, hd, hv⟩ := hD
  refine setItem_K (dv := .str v) PyProof.V.same_str (strKind_is _ _ _ _) (fun _ => Reads.str _ _) F N U hd hv.flat (fun h' o' F' N' hd' _ => h h' o' F' N' ⟨_, hd', ?_⟩) ?_
  · unfold PySem.stored
    rw [if_neg (by rw [hv.any, hnew]; decide)]
    exact hv.app
  · rw [List.length_map]; exact Nat.le_trans hl (Nat.le_of_ble_eq_true rfl)
abbrev alsD : List (Str × Str) := [(⟨#[99]⟩, ⟨#[98]⟩), (⟨#[110, 97, 101]⟩, ⟨#[98]⟩), (⟨#[110, 98]⟩, ⟨#[97, 101]⟩), (⟨#[110, 99]⟩, ⟨#[97, 101]⟩), (⟨#[122]⟩, ⟨#[101]⟩), (⟨#[110, 122]⟩, ⟨#[110, 101]⟩), (⟨#[110, 97]⟩, ⟨#[98, 101]⟩), (⟨#[110, 98, 101]⟩, ⟨#[97]⟩), (⟨#[112, 101]⟩, ⟨#[112]⟩), (⟨#[112, 111]⟩, ⟨#[110, 112]⟩), (⟨#[110, 103, 101]⟩, ⟨#[108]⟩), (⟨#[110, 108]⟩, ⟨#[103, 101]⟩), (⟨#[110, 103]⟩, ⟨#[108, 101]⟩), (⟨#[110, 108, 101]⟩, ⟨#[103]⟩)]
abbrev othD : List (Str × Str) := [(⟨#[115, 97, 108]⟩, ⟨#[115, 104, 108]⟩), (⟨#[108, 111, 111, 112, 122]⟩, ⟨#[108, 111, 111, 112, 101]⟩), (⟨#[108, 111, 111, 112, 110, 122]⟩, ⟨#[108, 111, 111, 112, 110, 101]⟩), (⟨#[114, 101, 112, 101]⟩, ⟨#[114, 101, 112]⟩), (⟨#[114, 101, 112, 122]⟩, ⟨#[114, 101, 112]⟩), (⟨#[114, 101, 112, 110, 122]⟩, ⟨#[114, 101, 112, 110, 101]⟩)]
end Mine
namespace Mine
open PyProof.V PySem.Spec
def namesL : Nat → List Str
  | 0 => [⟨#[111]⟩] | 1 => [⟨#[110, 111]⟩] | 2 => [⟨#[98]⟩, ⟨#[99]⟩, ⟨#[110, 97, 101]⟩] | 3 => [⟨#[97, 101]⟩, ⟨#[110, 99]⟩, ⟨#[110, 98]⟩] | 4 => [⟨#[101]⟩, ⟨#[122]⟩] | 5 => [⟨#[110, 101]⟩, ⟨#[110, 122]⟩] | 6 => [⟨#[98, 101]⟩, ⟨#[110, 97]⟩] | 7 => [⟨#[97]⟩, ⟨#[110, 98, 101]⟩] | 8 => [⟨#[115]⟩] | 9 => [⟨#[110, 115]⟩] | 10 => [⟨#[112]⟩, ⟨#[112, 101]⟩] | 11 => [⟨#[110, 112]⟩, ⟨#[112, 111]⟩] | 12 => [⟨#[108]⟩, ⟨#[110, 103, 101]⟩] | 13 => [⟨#[103, 101]⟩, ⟨#[110, 108]⟩] | 14 => [⟨#[108, 101]⟩, ⟨#[110, 103]⟩] | _ => [⟨#[103]⟩, ⟨#[110, 108, 101]⟩]
noncomputable def slook (k : Str) : List (Str × Str) → Option Str
  | [] => none
  | p :: r => if p.1 = k then some p.2 else slook k r
theorem slook_spec {k : Str} {D : List (Str × Str)} : PySem.Spec.lookup (PyData.str k) (D.map fun p => (PyData.str p.1, PyData.str p.2)) = (slook k D).map PyData.str := by
  induction D with
  | nil => rfl
  | cons p r ih =>
    rw [List.map_cons]
    unfold slook
    show (if PySem.Spec.same (PyData.str p.1) (PyData.str k) = true then _ else _) = _
    rw [PyProof.V.same_str]
    by_cases e : p.1 = k
    · rw [if_pos (by rw [decide_eq_true_eq]; exact e), if_pos e]; rfl
    · rw [if_neg (by rw [decide_eq_true_eq]; exact e), if_neg e]; exact ih
theorem ts_at {w : World} {h₀ : Heap} {L d : Addr} {h : Heap} {news : List (Addr × Obj)} {o : Obj} {D : List (Str × Str)} (hlo : (d == sysModules) = false) (hD : IsTS w o D) (N : News h₀ L h news) (hm : (d, o) ∈ news) :
    TabAt (PySem.strKind prgS w) PyData.str h d (D.map fun p => (PyData.str p.1, PyData.str p.2)) := by
  obtain ⟨kvs, hd, hv⟩ := hD
  exact ⟨hlo, kvs, Heap.dictOf_iff.mpr ⟨o, N.get hm, hd⟩, hv.flat⟩
theorem ts_in {w : World} {A : Around} {E : Value → Shared → Prop} {s : Shared} {h₀ : Heap} {L d : Addr} {news : List (Addr × Obj)} {o : Obj} {D : List (Str × Str)} {k : Str} {t : Tok} {Q : Value → Shared → Prop}
    (hlo : (d == sysModules) = false) (hD : IsTS w o D) (N : News h₀ L s.heap news) (hm : (d, o) ∈ news) (h : ∀ tk', Q (.bool (slook k D).isSome) { s with toks := tk' }) :
    wpAny (model prgS w) A (compareOp .In (.str k t) (.ref d)) Q E s := by
  refine in_tab PyProof.V.same_str (strKind_is _ _ _ _) (ts_at hlo hD N hm) ?_
  rw [slook_spec, Option.isSome_map]
  exact h _
theorem ts_item {w : World} {A : Around} {E : Value → Shared → Prop} {s : Shared} {h₀ : Heap} {L d : Addr} {news : List (Addr × Obj)} {o : Obj} {D : List (Str × Str)} {k v : Str} {t : Tok} {Q : Value → Shared → Prop} {value slice : PySem.Expr}
    (hlo : (d == sysModules) = false) (hD : IsTS w o D) (N : News h₀ L s.heap news) (hm : (d, o) ∈ news) (hl : slook k D = some v) (h : ∀ t' tk', Q (.str v t') { s with toks := tk' })
    (hs : subscripted slice false (.ref d) (.str k t) = operate [.ref d, .str k t] (getItem (.ref d) (.str k t))) :
    wpAny (model prgS w) A (subscriptTail value slice (.ref d) (.str k t)) Q E s := by
  have T := ts_at hlo hD N hm
  refine tab_tail T ?_ hs
  obtain ⟨_, kvs', hd', hf'⟩ := T
  obtain ⟨v', hv', hfl⟩ := hf'.of_lookup PyProof.V.same_str (show PySem.Spec.lookup (PyData.str k) _ = some (PyData.str v) by rw [slook_spec, hl]; rfl)
  obtain ⟨t', rfl⟩ := hfl.str_inv
  exact wpAny_getItem_of (strKind_is _ _ _ _) hd'.mapOf hv' (h t' _)
def wn (w k i : Nat) : Str := stm w ++ (namesL k).getD i ⟨#[]⟩
theorem wn_oth_dec : ∀ w : Fin 3, ∀ k : Fin 16, ∀ i : Fin 3, (slook (wn w.val k.val i.val) othD).isSome = false := by decide +kernel
theorem wn_pre_dec : ∀ w : Fin 3, ∀ k : Fin 16, ∀ i : Fin 3, Nat.blt i.val (namesL k.val).length = true → (Txt.slice (wn w.val k.val i.val) none (some ((stm 0).length : Int)) == stm 0) = decide (w.val = 0) ∧ (Txt.slice (wn w.val k.val i.val) none (some ((stm 1).length : Int)) == stm 1) = decide (w.val = 1) ∧ (Txt.slice (wn w.val k.val i.val) none (some ((stm 2).length : Int)) == stm 2) = decide (w.val = 2) := by decide +kernel
theorem wn_suf_dec : ∀ w : Fin 3, ∀ k : Fin 16, ∀ i : Fin 3, (Txt.slice (wn w.val k.val i.val) (some ((stm w.val).length : Int)) none == (namesL k.val).getD i.val ⟨#[]⟩) = true := by decide +kernel
theorem wn_als_dec : ∀ k : Fin 16, ∀ i : Fin 3, Nat.blt i.val (namesL k.val).length = true → slook ((namesL k.val).getD i.val ⟨#[]⟩) alsD = if i.val = 0 then none else some (cnd k.val) := by decide +kernel
theorem wn_0_dec : ∀ w : Fin 3, ∀ k : Fin 16, (wn w.val k.val 0 == nm w.val k.val) = true := by decide +kernel
end Mine
namespace Mine
variable {w : World}
section r24
variable {S : Scope} {D : Nat} {c : Cx w S D} {l l' : Locs} {led led' : Led} {P : AV → Led → Prop} {R : Out → Locs → Led → Prop} {x y : Str} {pos px py tpos apos : Pos} {ss body rest : List Stmt} {keep : Addr × Obj} {vs : List AV} {a : Addr} {o : Obj} {b i e : PySem.Expr} {k : Nat}
theorem At.weak {g h : Heap} {L : Addr} (hl : ∀ x v, l'.lookup x = some v → l.lookup x = some v) (T : Takes led' led) (A : At g L h l led) : At g L h l' led' := by
  obtain ⟨⟨m, F, hm⟩, N, nd⟩ := A
  exact ⟨⟨m, F, fun x v e => hm x v (hl x v e)⟩, fun q hq => N q (T.mem q hq), T.nd nd⟩
theorem Run.weak (hl : ∀ x v, l'.lookup x = some v → l.lookup x = some v) (T : Takes led' led) (h : Run c l' led' ss R) : Run c l led ss R := fun s Q E hE hA hQ => h s Q E hE (hA.weak hl T) hQ
theorem ForT.weak (hl : ∀ x v, l'.lookup x = some v → l.lookup x = some v) (T : Takes led' led) (h : ForT c x body rest R keep vs l' led') : ForT c x body rest R keep vs l led := by
  cases vs with
  | nil => exact Run.weak hl T h
  | cons v vs =>
    refine ForT.cons PutL.new fun q => ?_
    obtain ⟨f, hf, hb⟩ := h q
    refine Run.weak (fun z u e => ?_) (Takes.cons .head T) hb
    rw [hf.look v z] at e
    rw [show ((x, v) :: l).lookup z = _ from (PutL.new (r := l)).look v z]
    by_cases q : z = x
    · rw [if_pos q] at e ⊢; exact e
    · rw [if_neg q] at e ⊢; exact hl z u e
def SetS (c : Cx w S D) (l : Locs) (v y z : AV) (led : Led) (X : Led → Prop) : Prop := ∀ u1 u2 u3, v.Is u1 → y.Is u2 → z.Is u3 → WpU c l led (setItem u2 u3 u1) X
theorem Run.setsub (h : Ev c l led e fun v led1 => Ev c l led1 b fun y led2 => Ev c l led2 i fun z led3 => SetS c l v y z led3 fun led4 => Run c l led4 rest R)
    (hs : swapsWith e (some (.Subscript b i apos)) pos.line c.env = pure false) : Run c l led (.Assign [.Subscript b i apos] e pos :: rest) R := fun s Q E hE hA hQ => by
  refine wpAny_execs_cons (wpAny_Assign_Subscript (h s _ E hA fun v led1 u1 h1 tk1 hP1 hv hA1 => hP1 _ _ E hA1 fun y led2 u2 h2 tk2 hP2 hy hA2 => hP2 _ _ E hA2 fun z led3 u3 h3 tk3 hP3 hz hA3 => ?_) hs)
  exact hP3 u1 u2 u3 hv hy hz _ _ E hA3 fun led4 h4 tk4 hR hA4 => hR _ _ _ hE hA4 fun o l' led'' f h5 tk5 hR5 ho5 hA5 => hQ _ _ _ _ h5 tk5 hR5 ho5 hA5
theorem SetS.il {X : Led → Prop} {g : Obj → Led} {ns : List Int} {kk xx : Int} (h1 : Put a o led g) (h2 : IsIL o ns) (h3 : 0 ≤ kk) (h4 : kk < ns.length) (h5 : kk < 2 ^ 63) (h : ∀ o', IsIL o' (ns.set kk.toNat xx) → X (g o')) : SetS c l (.int xx) (.ref a) (.int kk) led X := fun u1 u2 u3 hv hy hz s Q E hA hQ => by
  obtain ⟨t1, rfl⟩ := hv
  obtain rfl : u2 = .ref a := hy
  obtain ⟨t3, rfl⟩ := hz
  obtain ⟨us, n, rfl, hvs⟩ := h2
  obtain ⟨⟨m, F, hl⟩, N, nd⟩ := hA
  exact ksa_set F N (h1.to_upd nd _) hvs h3 h4 h5 fun h4 F4 N4 hi4 _ _ => hQ _ h4 _ (h _ ⟨_, _, rfl, hi4⟩) ⟨⟨m, F4, hl⟩, N4, h1.nd nd _⟩
theorem SetS.hd {X : Led → Prop} {g : Obj → Led} {Dl : List (Int × Int)} {kk xx : Int} (h1 : Put a o led g) (h2 : IsHd w o Dl) (h3 : Dl.length ≤ 16) (h : ∀ o', IsHd w o' (hput kk xx Dl) → X (g o')) : SetS c l (.int xx) (.ref a) (.int kk) led X := fun u1 u2 u3 hv hy hz s Q E hA hQ => by
  obtain ⟨t1, rfl⟩ := hv
  obtain rfl : u2 = .ref a := hy
  obtain ⟨t3, rfl⟩ := hz
  obtain ⟨⟨m, F, hl⟩, N, nd⟩ := hA
  exact hd_set h2 F N (h1.to_updF nd) h3 fun h4 o4 F4 N4 hi4 => hQ _ h4 _ (h _ hi4) ⟨⟨m, F4, hl⟩, N4, h1.nd nd _⟩
theorem SetS.ts {X : Led → Prop} {g : Obj → Led} {Dl : List (Str × Str)} {kk xx : Str} (h1 : Put a o led g) (h2 : IsTS w o Dl) (hn : (Dl.any fun p => decide (p.1 = kk)) = false) (h3 : Dl.length ≤ 100) (h : ∀ o', IsTS w o' (Dl ++ [(kk, xx)]) → X (g o')) : SetS c l (.str xx) (.ref a) (.str kk) led X := fun u1 u2 u3 hv hy hz s Q E hA hQ => by
  obtain ⟨t1, rfl⟩ := hv
  obtain rfl : u2 = .ref a := hy
  obtain ⟨t3, rfl⟩ := hz
  obtain ⟨⟨m, F, hl⟩, N, nd⟩ := hA
  exact ts_new h2 F N (h1.to_updF nd) hn h3 fun h4 o4 F4 N4 hi4 => hQ _ h4 _ (h _ hi4) ⟨⟨m, F4, hl⟩, N4, h1.nd nd _⟩
def Un2 (v : AV) (led : Led) (X : Str → Str → Prop) : Prop := ∃ (a : Addr) (o : Obj) (x1 x2 : Str), v = .ref a ∧ (a, o) ∈ led ∧ IsSL o [x1, x2] ∧ X x1 x2
theorem Un2.intro {X : Str → Str → Prop} {x1 x2 : Str} (h1 : (a, o) ∈ led) (h2 : IsSL o [x1, x2]) (h : X x1 x2) : Un2 (.ref a) led X := ⟨a, o, x1, x2, rfl, h1, h2, h⟩
theorem Run.unpack2 {f : AV → Locs} {g : AV → AV → Locs} (hf : PutL x l f) (hg : ∀ v, PutL y (f v) (g v)) (hx : S.names.lookup x = some .local) (hy : S.names.lookup y = some .local)
    (h : Ev c l led e fun v led' => Un2 v led' fun x1 x2 => Run c (g (.str x1) (.str x2)) led' rest R)
    (hs : swapsWithSole [.Tuple [.Name x px, .Name y py] k tpos] e pos.line c.env = pure false)
    (hn : swappedStores [.Tuple [.Name x px, .Name y py] k tpos] e c.env = pure Option.none) : Run c l led (.Assign [.Tuple [.Name x px, .Name y py] k tpos] e pos :: rest) R := fun s Q E hE hA hQ => by
  refine wpAny_execs_cons (Assign_Tuple (h s _ E hA fun v led' u h1 tk1 hP hv hA1 => ?_) hs hn)
  obtain ⟨a, o, x1, x2, rfl, hm, ⟨us, n, rfl, hi⟩, hR⟩ := hP
  obtain rfl : u = .ref a := hv
  obtain ⟨_, _, rfl, ⟨t1, rfl⟩, ⟨t2, rfl⟩⟩ := VIs.two (a := .str x1) (b := .str x2) (StrsAre.vis hi)
  obtain ⟨⟨m, F, hl⟩, N, nd⟩ := hA1
  refine kun_list F N (N.isList hm) rfl rfl rfl fun h2 F2 N2 => ?_
  refine assignInOrder_cons (assign_Name (storeX_L F2 N2 (fun h4 F4 N4 => ?_) c.hk hx))
  refine assignInOrder_cons (assign_Name (storeX_L F4 N4 (fun h5 F5 N5 => ?_) c.hk hy))
  exact assignInOrder_nil (hR _ _ _ hE ⟨⟨_, F5, loc_put (hg (.str x1)) (show (AV.str x2).Is _ from ⟨_, rfl⟩) (loc_put hf (show (AV.str x1).Is _ from ⟨_, rfl⟩) hl)⟩, N5, nd⟩ fun o l' led'' f h6 tk6 hR6 ho hA6 => hQ _ _ _ _ h6 tk6 hR6 ho hA6)
theorem Ev.dict0 (h : ∀ d o, (d == sysModules) = false → IsTS w o [] → IsHd w o [] → P (.ref d) ((d, o) :: led)) : Ev c l led (.Dict [] [] pos) P := fun s Q E hA hQ => by
  obtain ⟨⟨m, F, hl⟩, N, nd⟩ := hA
  exact newDict_K F N (TopRead.nolimit (topRead_of c.T)) fun d h' o F' N' hD lo a1 _ a2 _ => hQ _ _ _ h' s.toks (h d o lo ⟨_, a1, .nil⟩ ⟨_, a2, .nil⟩) rfl (At.cons F' hl N' hD nd)
theorem Cmp.inTS {Dl : List (Str × Str)} (h1 : (a, o) ∈ led) (h2 : IsTS w o Dl) (h3 : (a == sysModules) = false) (h : P (.bool (slook x Dl).isSome) led) : Cmp c l .In (.str x) (.ref a) led P := fun u v hu hv s Q E hA hQ => by
  obtain ⟨t, rfl⟩ := hu
  obtain rfl : v = .ref a := hv
  exact ts_in h3 h2 hA.nw h1 fun tk => hQ _ _ _ s.heap tk h rfl hA
theorem Sub.ts {Dl : List (Str × Str)} {v : Str} (h1 : (a, o) ∈ led) (h2 : IsTS w o Dl) (h3 : (a == sysModules) = false) (hl : slook x Dl = some v) (h : P (.str v) led) (hs : ∀ u, subscripted i false (.ref a) (.str x u) = operate [.ref a, .str x u] (getItem (.ref a) (.str x u))) : Sub c l b i (.ref a) (.str x) led P := fun u1 u2 hu hv s Q E hA hQ => by
  obtain rfl : u1 = .ref a := hu
  obtain ⟨t, rfl⟩ := hv
  exact ts_item h3 h2 hA.nw h1 hl (fun t' tk => hQ _ _ _ s.heap tk h ⟨_, rfl⟩ hA) (hs t)
end r24
end Mine
namespace Mine
variable {w : World}
inductive W2 : List (Str × Str) → List Str → List (Str × Str) → Prop
  | nil {D0} : W2 D0 [] D0
  | cons {D0 x k v ws D} : Txt.split x (Str.ofString ":") = [k, v] → x.length + 2 ≤ sizeLine → (D0.any fun p => decide (p.1 = k)) = false → D0.length ≤ 100 → W2 (D0 ++ [(k, v)]) ws D → W2 D0 (x :: ws) D
noncomputable def w2b : List (Str × Str) → List Str → List (Str × Str) → Bool
  | D0, [], D => decide (D0 = D)
  | D0, x :: ws, D => match Txt.split x (Str.ofString ":") with
    | [k, v] => Nat.ble (x.length + 2) 1000 && !(D0.any fun p => decide (p.1 = k)) && Nat.ble D0.length 100 && w2b (D0 ++ [(k, v)]) ws D
    | _ => false
theorem w2_of : ∀ {ws : List Str} {D0 D : List (Str × Str)}, w2b D0 ws D = true → W2 D0 ws D
  | [], D0, D, h => by unfold w2b at h; rw [← of_decide_eq_true h]; exact .nil
  | x :: ws, D0, D, h => by
    unfold w2b at h
    split at h
    · rename_i k v e
      rw [Bool.and_eq_true, Bool.and_eq_true, Bool.and_eq_true] at h
      obtain ⟨⟨⟨h1, h2⟩, h3⟩, h4⟩ := h
      exact .cons e (Nat.le_trans (Nat.le_of_ble_eq_true h1) (Nat.le_of_ble_eq_true rfl)) (by simpa using h2) (Nat.le_of_ble_eq_true h3) (w2_of h4)
    · cases h
theorem w2_als : W2 [] (Txt.split (Str.ofString "c:b nae:b nb:ae nc:ae z:e nz:ne na:be nbe:a pe:p po:np nge:l nl:ge ng:le nle:g") (Str.ofString " ")) alsD := w2_of (by decide +kernel)
theorem w2_oth : W2 [] (Txt.split (Str.ofString "sal:shl loopz:loope loopnz:loopne repe:rep repz:rep repnz:repne") (Str.ofString " ")) othD := w2_of (by decide +kernel)
inductive LocSub : Locs → Locs → Prop
  | nil {l} : LocSub [] l
  | cons {z y r l} : l.lookup z = some y → LocSub r l → LocSub ((z, y) :: r) l
theorem LocSub.spec {l' l : Locs} (h : LocSub l' l) : ∀ x v, l'.lookup x = some v → l.lookup x = some v := by
  induction h with
  | nil => intro x v e; cases e
  | @cons z y r l h1 _ ih =>
    intro x v e
    rw [List.lookup_cons] at e
    cases q : x == z with
    | true => rw [q] at e; rw [eq_of_beq q]; rw [← Option.some.inj e]; exact h1
    | false => rw [q] at e; exact ih x v e
section r25
variable {S : Scope} {D : Nat} {c : Cx w S D} {l l' : Locs} {led led' : Led} {P : AV → Led → Prop} {R : Out → Locs → Led → Prop} {x y : Str} {body rest : List Stmt} {keep q : Addr × Obj} {vs : List AV}
def ForJ (q keep : Addr × Obj) (J : List AV → Locs → Led → Prop) (vs : List AV) : Out → Locs → Led → Prop := fun o l led => o = .next ∧ ∃ led'' l1 led1, Rem q led led'' ∧ keep ∈ led'' ∧ LocSub l1 l ∧ Takes led1 led'' ∧ J vs l1 led1
theorem ForJ.intro {J : List AV → Locs → Led → Prop} {led'' led1 : Led} {l1 : Locs} (h1 : Rem q led led'') (h2 : keep ∈ led'') (h3 : LocSub l1 l) (h4 : Takes led1 led'') (h5 : J vs l1 led1) : ForJ q keep J vs .next l led := ⟨rfl, led'', l1, led1, h1, h2, h3, h4, h5⟩
theorem Run.mono {R' : Out → Locs → Led → Prop} {ss : List Stmt} (h : Run c l led ss R) (hm : ∀ o l led, R o l led → R' o l led) : Run c l led ss R' := fun s Q E hE hA hQ => h s Q E hE hA fun o l' led' f h' tk' hR => hQ o l' led' f h' tk' (hm _ _ _ hR)
theorem ForT.inv (J : List AV → Locs → Led → Prop) (hnil : ∀ l led, J [] l led → Run c l led rest R) (hcons : ∀ v vs l led q, J (v :: vs) l led → Run c ((x, v) :: l) (q :: led) body (ForJ q keep J vs)) : ∀ vs l led, J vs l led → ForT c x body rest R keep vs l led
  | [], l, led, h => hnil l led h
  | v :: vs, l, led, h => ForT.cons PutL.new fun q => by
    refine Run.mono (hcons v vs l led q h) fun o l' led' hJ => ?_
    obtain ⟨rfl, led'', l1, led1, h1, h2, h3, h4, h5⟩ := hJ
    exact ⟨led'', h1, h2, ForT.weak h3.spec h4 (ForT.inv J hnil hcons vs l1 led1 h5)⟩
end r25
end Mine
theorem Mine.rowsM25_1 : True := by
  (k_with "amRun" => ((with_reducible refine' Mine.Run.setsub ?_ ?zhs); (case zhs => kernel_rfl)))
  (k_with "amX" => ((with_reducible refine' Mine.SetS.il ?zh1 ?zh2 ?zh3 ?zh4 ?zh5 ?_); k_extra "c46"; intro o' ho'))
  (k_with "amX" => ((with_reducible refine' Mine.SetS.hd ?zh1 ?zh2 ?zh3 ?_); k_extra "c32"; (case zh3 => k_extra "dlen"); intro o' ho'))
  (k_with "amX" => ((with_reducible refine' Mine.SetS.ts ?zh1 ?zh2 ?zhn ?zh3 ?_); k_extra "c32"; (case zhn => assumption); (case zh3 => k_extra "dlen"); intro o' ho'))
  (k_with "amRun" => ((with_reducible refine' Mine.Run.unpack2 ?zhf ?zhg ?zhx ?zhy ?_ ?zhs ?zhn); k_extra "c16"))
  (k_with "amRun" => ((with_reducible refine' Mine.Run.assign2 ?zhf ?zhg ?zhx ?zhy ?_ ?zhs ?zhn); k_extra "c16"))
  (k_with "amX" => ((with_reducible refine' Mine.Un2.intro ?zh1 ?zh2 ?_); k_extra "c31"))
  (k_with "amEv" => ((with_reducible refine' Mine.Ev.dict0 ?_); intro d' o' hlo' hts' hhd'))
  (k_with "amcmp" => ((with_reducible first | (refine' Mine.Cmp.inTS ?zh1 ?zh2 ?zh3 (Mine.BoolV.intro ?_)) | (refine' Mine.Cmp.inTS ?zh1 ?zh2 ?zh3 ?_)); k_extra "c31"; (case zh3 => assumption)))
  (k_with "amX" => ((with_reducible refine' Mine.Sub.ts ?zh1 ?zh2 ?zh3 ?zhl ?_ ?zhs); k_extra "c31"; (case zh3 => assumption); (case zhl => k_extra "slook"); (case zhs => (intro _; kernel_rfl))))
  (k_with "amX" => ((with_reducible refine' Mine.ItsV.sl ?zho ?zhi ?_); k_extra "c5"))
  (k_with "strlen" => first | assumption | exact Nat.le_of_ble_eq_true (by decide +kernel))
  (k_with "split" => first | with_reducible assumption | exact rfl)
  (k_with "locsub" => with_reducible first | exact Mine.LocSub.nil | (refine' Mine.LocSub.cons ?za ?zb; (case za => k_extra "lk"); (case zb => k_extra "locsub")))
  (k_with "amcall" => ((with_reducible refine' Mine.CallV.split1 ?zhy ?zhz ?zhe ?_); (case zhe => k_extra "split"); (case zhy => kernel_rfl); (case zhz => k_extra "strlen"); intro l' o' ho'))
  trivial
namespace Mine
variable {w : World}
theorem a_pairs (x : Str) (Dl : List (Str × Str)) (hz : x.length + 2 ≤ sizeLine) (hW : W2 [] (Txt.split x (Str.ofString " ")) Dl) {P : AV → Led → Prop} (h : ∀ d o, (d == sysModules) = false → IsTS w o Dl → P (.ref d) [(d, o)]) : CallsN w 437 [.str x] [] 2 P := by
  refine' CallsN.of_body (ns := [Str.ofString "text"]) (ds := []) (dvs := []) 1 ?zho ?zhcd ?zhdv ?zhb ?zhloc ?zhco ?zhge ?zhki ?zhcell ?zhD ?_
  k_extra "enter"
  repeat' (first | k_extra "am" | fail "end")
  refine' ForT.inv (fun vs l led => ∃ ws D0 o, vs = ws.map AV.str ∧ W2 D0 ws Dl ∧ IsTS w o D0 ∧ l = [(Str.ofString "table", .ref _), (Str.ofString "text", .str x)] ∧ led = [_, (_, o)]) ?_ ?_ _ _ _ ⟨_, [], _, rfl, hW, by assumption, rfl, rfl⟩
  · rintro l led ⟨ws, D0, o, e, hW2, ht, rfl, rfl⟩
    cases ws with
    | cons y ws => cases e
    | nil =>
    cases hW2
    repeat' (first | k_extra "am" | fail "end")
    all_goals exact FinN.ret (h _ _ (by assumption) (by assumption)) (by k_extra "take")
  · rintro v vs l led q ⟨ws, D0, o, e, hW2, ht, rfl, rfl⟩
    cases ws with
    | nil => cases e
    | cons y ws =>
    rw [List.map_cons] at e
    obtain ⟨rfl, rfl⟩ := List.cons.inj e
    cases hW2 with
    | cons h1 h2 h3 h4 h5 =>
    repeat' (first | k_extra "am" | fail "end")
    all_goals exact ForJ.intro (by k_extra "rem") (by k_mem) (by k_extra "locsub") (by k_extra "take") ⟨ws, _, _, rfl, h5, by assumption, rfl, rfl⟩
end Mine
namespace Mine
variable {w : World}
section r26
variable {S : Scope} {D : Nat} {c : Cx w S D} {l : Locs} {led : Led} {P : AV → Led → Prop} {x y : Str} {pos sp : Pos} {b e : PySem.Expr}
def Slc0 (i : AV) (x : Str) (X : Str → Prop) : Prop := ∃ (k : Int) (y : Str), i = .int k ∧ x.length ≤ sizeLine ∧ Txt.slice x Option.none (some k) = y ∧ X y
theorem Slc0.intro {X : Str → Prop} {k : Int} (hz : x.length ≤ sizeLine) (h : X (Txt.slice x Option.none (some k))) : Slc0 (.int k) x X := ⟨k, _, rfl, hz, rfl, h⟩
theorem Ev.slice0 (h : Ev c l led b fun y led1 => StrV y fun x => Ev c l led1 e fun i led2 => Slc0 i x fun y => P (.str y) led2)
    (hs : ∀ (x : Str) (t : Tok) (s : Shared), subscripted (.Slice Option.none (some e) Option.none sp) false (.str x t) (.ref s.heap.objs.size) = operate [.ref s.heap.objs.size, .str x t] (getItem (.str x t) (.ref s.heap.objs.size)))
    (hg : ∀ (x : Str) (t : Tok) (r : Value), letTemporaryGo b (.str x t) r = pure ()) : Ev c l led (.Subscript b (.Slice Option.none (some e) Option.none sp) pos) P := fun s Q E hA hQ => by
  refine Subscript_ (h s _ E hA fun y led1 u1 h1 tk1 hP hy hA1 => ?_)
  obtain ⟨x, rfl, hE⟩ := hP
  obtain ⟨t, rfl⟩ := hy
  refine wpAny_Slice (evalPart_none_step (evalPart_some_step (hE _ _ E hA1 fun i led2 u2 h2 tk2 hP2 hi hA2 => ?_)))
  obtain ⟨k, _, rfl, hz, rfl, hP3⟩ := hP2
  obtain ⟨t2, rfl⟩ := hi
  refine evalPart_none_step ?_
  obtain ⟨⟨m, F, hl⟩, N, nd⟩ := hA2
  exact slice_strN_ns (s := { s with heap := h2, toks := tk2 }) F N (fun h' t' tk' F' N' => hQ _ _ _ h' tk' hP3 ⟨t', rfl⟩ ⟨⟨m, F', hl⟩, N', nd⟩) (hs x t _) (hg x t) hz
end r26
theorem cansl {y : Str} (h : y.length ≤ 10) : (Str.ofString "j").length + y.length ≤ sizeLine ∧ (Str.ofString "set").length + y.length ≤ sizeLine ∧ (Str.ofString "cmov").length + y.length ≤ sizeLine :=
  ⟨Nat.le_trans (Nat.add_le_add (Nat.le_of_eq len_j) h) (Nat.le_of_ble_eq_true rfl), Nat.le_trans (Nat.add_le_add (Nat.le_of_eq len_set) h) (Nat.le_of_ble_eq_true rfl), Nat.le_trans (Nat.add_le_add (Nat.le_of_eq len_cmov) h) (Nat.le_of_ble_eq_true rfl)⟩
end Mine
theorem Mine.rowsM26_1 : True := by
  (k_with "amEv" => ((with_reducible refine' Mine.Ev.slice0 ?_ ?zhs ?zhg); k_extra "c54"))
  (k_with "amX" => ((with_reducible refine' Mine.Slc0.intro ?zhz ?_); (case zhz => k_extra "strlen")))
  (k_with "amif" => ((with_reducible refine' Mine.IfB.neg ?zhp ?_); (case zhp => with_reducible assumption)))
  (k_with "amif" => ((with_reducible refine' Mine.IfB.pos ?zhp ?_); (case zhp => with_reducible assumption)))
  (k_with "slice" => exact rfl)
  (k_with "slook" => with_reducible assumption)
  (k_with "strlen" => first | assumption | exact (Mine.cansl (by assumption)).1 | exact (Mine.cansl (by assumption)).2.1 | exact (Mine.cansl (by assumption)).2.2 | exact Nat.le_of_ble_eq_true (by decide +kernel))
  (k_with "amcall" => ((with_reducible refine' Mine.CallV.n (Mine.a_pairs _ _ ?zp0 ?zp1 (fun d' o' hlo' ho' => ?_)) ?zhd Mine.Takes.nil); (case zp0 => exact Nat.le_of_ble_eq_true (by decide +kernel)); (case zp1 => with_reducible first | exact Mine.w2_als | exact Mine.w2_oth); (case zhd => decide)))
  trivial
namespace Mine
variable {w : World}
theorem a_can01 (x cc : Str) (hx : x.length ≤ sizeLine) (hc : cc.length ≤ 10) (hO : (slook x othD).isSome = false) (g0 : (Txt.slice x none (some ((1 : Nat) : Int)) == Str.ofString "j") = true) (s1 : (slook (Txt.slice x (some ((1 : Nat) : Int)) none) alsD).isSome = true) (s2 : slook (Txt.slice x (some ((1 : Nat) : Int)) none) alsD = some cc) {P : AV → Led → Prop} (h : P (.str (Str.ofString "j" ++ cc)) []) : CallsN w 444 [.str x] [] 4 P := by
  refine' CallsN.of_body (ns := [Str.ofString "name"]) (ds := []) (dvs := []) 3 ?zho ?zhcd ?zhdv ?zhb ?zhloc ?zhco ?zhge ?zhki ?zhcell ?zhD ?_
  k_extra "enter"
  repeat' (first | k_extra "am" | fail "end")
  all_goals exact FinN.ret0 h Takes.nil
end Mine
namespace Mine
variable {w : World}
theorem a_can00 (x : Str) (hx : x.length ≤ sizeLine) (hO : (slook x othD).isSome = false) (g0 : (Txt.slice x none (some ((1 : Nat) : Int)) == Str.ofString "j") = true) (g1 : (Txt.slice x none (some ((3 : Nat) : Int)) == Str.ofString "set") = false) (g2 : (Txt.slice x none (some ((4 : Nat) : Int)) == Str.ofString "cmov") = false) (s1 : (slook (Txt.slice x (some ((1 : Nat) : Int)) none) alsD).isSome = false) {P : AV → Led → Prop} (h : P (.str (x)) []) : CallsN w 444 [.str x] [] 4 P := by
  refine' CallsN.of_body (ns := [Str.ofString "name"]) (ds := []) (dvs := []) 3 ?zho ?zhcd ?zhdv ?zhb ?zhloc ?zhco ?zhge ?zhki ?zhcell ?zhD ?_
  k_extra "enter"
  repeat' (first | k_extra "am" | fail "end")
  all_goals exact FinN.ret0 h Takes.nil
end Mine
namespace Mine
variable {w : World}
theorem a_can11 (x cc : Str) (hx : x.length ≤ sizeLine) (hc : cc.length ≤ 10) (hO : (slook x othD).isSome = false) (g0 : (Txt.slice x none (some ((1 : Nat) : Int)) == Str.ofString "j") = false) (g1 : (Txt.slice x none (some ((3 : Nat) : Int)) == Str.ofString "set") = true) (s1 : (slook (Txt.slice x (some ((3 : Nat) : Int)) none) alsD).isSome = true) (s2 : slook (Txt.slice x (some ((3 : Nat) : Int)) none) alsD = some cc) {P : AV → Led → Prop} (h : P (.str (Str.ofString "set" ++ cc)) []) : CallsN w 444 [.str x] [] 4 P := by
  refine' CallsN.of_body (ns := [Str.ofString "name"]) (ds := []) (dvs := []) 3 ?zho ?zhcd ?zhdv ?zhb ?zhloc ?zhco ?zhge ?zhki ?zhcell ?zhD ?_
  k_extra "enter"
  repeat' (first | k_extra "am" | fail "end")
  all_goals exact FinN.ret0 h Takes.nil
end Mine
namespace Mine
variable {w : World}
theorem a_can10 (x : Str) (hx : x.length ≤ sizeLine) (hO : (slook x othD).isSome = false) (g0 : (Txt.slice x none (some ((1 : Nat) : Int)) == Str.ofString "j") = false) (g1 : (Txt.slice x none (some ((3 : Nat) : Int)) == Str.ofString "set") = true) (g2 : (Txt.slice x none (some ((4 : Nat) : Int)) == Str.ofString "cmov") = false) (s1 : (slook (Txt.slice x (some ((3 : Nat) : Int)) none) alsD).isSome = false) {P : AV → Led → Prop} (h : P (.str (x)) []) : CallsN w 444 [.str x] [] 4 P := by
  refine' CallsN.of_body (ns := [Str.ofString "name"]) (ds := []) (dvs := []) 3 ?zho ?zhcd ?zhdv ?zhb ?zhloc ?zhco ?zhge ?zhki ?zhcell ?zhD ?_
  k_extra "enter"
  repeat' (first | k_extra "am" | fail "end")
  all_goals exact FinN.ret0 h Takes.nil
end Mine
namespace Mine
variable {w : World}
theorem a_can21 (x cc : Str) (hx : x.length ≤ sizeLine) (hc : cc.length ≤ 10) (hO : (slook x othD).isSome = false) (g0 : (Txt.slice x none (some ((1 : Nat) : Int)) == Str.ofString "j") = false) (g1 : (Txt.slice x none (some ((3 : Nat) : Int)) == Str.ofString "set") = false) (g2 : (Txt.slice x none (some ((4 : Nat) : Int)) == Str.ofString "cmov") = true) (s1 : (slook (Txt.slice x (some ((4 : Nat) : Int)) none) alsD).isSome = true) (s2 : slook (Txt.slice x (some ((4 : Nat) : Int)) none) alsD = some cc) {P : AV → Led → Prop} (h : P (.str (Str.ofString "cmov" ++ cc)) []) : CallsN w 444 [.str x] [] 4 P := by
  refine' CallsN.of_body (ns := [Str.ofString "name"]) (ds := []) (dvs := []) 3 ?zho ?zhcd ?zhdv ?zhb ?zhloc ?zhco ?zhge ?zhki ?zhcell ?zhD ?_
  k_extra "enter"
  repeat' (first | k_extra "am" | fail "end")
  all_goals exact FinN.ret0 h Takes.nil
end Mine
namespace Mine
variable {w : World}
theorem a_can20 (x : Str) (hx : x.length ≤ sizeLine) (hO : (slook x othD).isSome = false) (g0 : (Txt.slice x none (some ((1 : Nat) : Int)) == Str.ofString "j") = false) (g1 : (Txt.slice x none (some ((3 : Nat) : Int)) == Str.ofString "set") = false) (g2 : (Txt.slice x none (some ((4 : Nat) : Int)) == Str.ofString "cmov") = true) (s1 : (slook (Txt.slice x (some ((4 : Nat) : Int)) none) alsD).isSome = false) {P : AV → Led → Prop} (h : P (.str (x)) []) : CallsN w 444 [.str x] [] 4 P := by
  refine' CallsN.of_body (ns := [Str.ofString "name"]) (ds := []) (dvs := []) 3 ?zho ?zhcd ?zhdv ?zhb ?zhloc ?zhco ?zhge ?zhki ?zhcell ?zhD ?_
  k_extra "enter"
  repeat' (first | k_extra "am" | fail "end")
  all_goals exact FinN.ret0 h Takes.nil
end Mine
namespace Mine
theorem stm_0 : Str.ofString "j" = stm 0 := eq_of_beq (by decide +kernel)
theorem stm_1 : Str.ofString "set" = stm 1 := eq_of_beq (by decide +kernel)
theorem stm_2 : Str.ofString "cmov" = stm 2 := eq_of_beq (by decide +kernel)
theorem wn_len_dec : ∀ w : Fin 3, ∀ k : Fin 16, ∀ i : Fin 3, Nat.ble (wn w.val k.val i.val).length 10 = true := by decide +kernel
theorem wn_len {w k i : Nat} (hw : w < 3) (hk : k < 16) (hi : i < 3) : (wn w k i).length ≤ sizeLine := Nat.le_trans (Nat.le_of_ble_eq_true (wn_len_dec ⟨w, hw⟩ ⟨k, hk⟩ ⟨i, hi⟩)) (Nat.le_of_ble_eq_true rfl)
theorem wn_oth {w k i : Nat} (hw : w < 3) (hk : k < 16) (hi : i < 3) : (slook (wn w k i) othD).isSome = false := wn_oth_dec ⟨w, hw⟩ ⟨k, hk⟩ ⟨i, hi⟩
theorem cnd_len_dec : ∀ k : Fin 16, Nat.ble (cnd k.val).length 10 = true := by decide +kernel
theorem cnd_len {k : Nat} (hk : k < 16) : (cnd k).length ≤ 10 := Nat.le_of_ble_eq_true (cnd_len_dec ⟨k, hk⟩)
theorem g_00_dec : ∀ k : Fin 16, ∀ i : Fin 3, (Txt.slice (wn 0 k.val i.val) none (some ((1 : Nat) : Int)) == Str.ofString "j") = true := by decide +kernel
theorem g_01_dec : ∀ k : Fin 16, ∀ i : Fin 3, (Txt.slice (wn 0 k.val i.val) none (some ((3 : Nat) : Int)) == Str.ofString "set") = false := by decide +kernel
theorem g_02_dec : ∀ k : Fin 16, ∀ i : Fin 3, (Txt.slice (wn 0 k.val i.val) none (some ((4 : Nat) : Int)) == Str.ofString "cmov") = false := by decide +kernel
theorem s_0_dec : ∀ k : Fin 16, ∀ i : Fin 3, (i.val == 0 || !(Nat.blt i.val (namesL k.val).length) || decide (slook (Txt.slice (wn 0 k.val i.val) (some ((1 : Nat) : Int)) none) alsD = some (cnd k.val))) = true := by decide +kernel
theorem s_00_dec : ∀ k : Fin 16, (slook (Txt.slice (wn 0 k.val 0) (some ((1 : Nat) : Int)) none) alsD).isSome = false := by decide +kernel
theorem s_0 {k i : Nat} (hk : k < 16) (hi : i < 3) (h0 : i ≠ 0) (hl : i < (namesL k).length) : slook (Txt.slice (wn 0 k i) (some ((1 : Nat) : Int)) none) alsD = some (cnd k) := by
  have h := s_0_dec ⟨k, hk⟩ ⟨i, hi⟩
  have h1 : Nat.blt i (namesL k).length = true := by rw [Nat.blt_eq]; exact hl
  have h2 : (i == 0) = false := beq_false_of_ne h0
  dsimp only at h
  rw [h1, h2] at h
  simpa using h
theorem g_10_dec : ∀ k : Fin 16, ∀ i : Fin 3, (Txt.slice (wn 1 k.val i.val) none (some ((1 : Nat) : Int)) == Str.ofString "j") = false := by decide +kernel
theorem g_11_dec : ∀ k : Fin 16, ∀ i : Fin 3, (Txt.slice (wn 1 k.val i.val) none (some ((3 : Nat) : Int)) == Str.ofString "set") = true := by decide +kernel
theorem g_12_dec : ∀ k : Fin 16, ∀ i : Fin 3, (Txt.slice (wn 1 k.val i.val) none (some ((4 : Nat) : Int)) == Str.ofString "cmov") = false := by decide +kernel
theorem s_1_dec : ∀ k : Fin 16, ∀ i : Fin 3, (i.val == 0 || !(Nat.blt i.val (namesL k.val).length) || decide (slook (Txt.slice (wn 1 k.val i.val) (some ((3 : Nat) : Int)) none) alsD = some (cnd k.val))) = true := by decide +kernel
theorem s_10_dec : ∀ k : Fin 16, (slook (Txt.slice (wn 1 k.val 0) (some ((3 : Nat) : Int)) none) alsD).isSome = false := by decide +kernel
theorem s_1 {k i : Nat} (hk : k < 16) (hi : i < 3) (h0 : i ≠ 0) (hl : i < (namesL k).length) : slook (Txt.slice (wn 1 k i) (some ((3 : Nat) : Int)) none) alsD = some (cnd k) := by
  have h := s_1_dec ⟨k, hk⟩ ⟨i, hi⟩
  have h1 : Nat.blt i (namesL k).length = true := by rw [Nat.blt_eq]; exact hl
  have h2 : (i == 0) = false := beq_false_of_ne h0
  dsimp only at h
  rw [h1, h2] at h
  simpa using h
theorem g_20_dec : ∀ k : Fin 16, ∀ i : Fin 3, (Txt.slice (wn 2 k.val i.val) none (some ((1 : Nat) : Int)) == Str.ofString "j") = false := by decide +kernel
theorem g_21_dec : ∀ k : Fin 16, ∀ i : Fin 3, (Txt.slice (wn 2 k.val i.val) none (some ((3 : Nat) : Int)) == Str.ofString "set") = false := by decide +kernel
theorem g_22_dec : ∀ k : Fin 16, ∀ i : Fin 3, (Txt.slice (wn 2 k.val i.val) none (some ((4 : Nat) : Int)) == Str.ofString "cmov") = true := by decide +kernel
theorem s_2_dec : ∀ k : Fin 16, ∀ i : Fin 3, (i.val == 0 || !(Nat.blt i.val (namesL k.val).length) || decide (slook (Txt.slice (wn 2 k.val i.val) (some ((4 : Nat) : Int)) none) alsD = some (cnd k.val))) = true := by decide +kernel
theorem s_20_dec : ∀ k : Fin 16, (slook (Txt.slice (wn 2 k.val 0) (some ((4 : Nat) : Int)) none) alsD).isSome = false := by decide +kernel
theorem s_2 {k i : Nat} (hk : k < 16) (hi : i < 3) (h0 : i ≠ 0) (hl : i < (namesL k).length) : slook (Txt.slice (wn 2 k i) (some ((4 : Nat) : Int)) none) alsD = some (cnd k) := by
  have h := s_2_dec ⟨k, hk⟩ ⟨i, hi⟩
  have h1 : Nat.blt i (namesL k).length = true := by rw [Nat.blt_eq]; exact hl
  have h2 : (i == 0) = false := beq_false_of_ne h0
  dsimp only at h
  rw [h1, h2] at h
  simpa using h
variable {w : World}
theorem a_canon (wv k i : Nat) (hw : wv < 3) (hk : k < 16) (hi : i < 3) (hl : i < (namesL k).length) {P : AV → Led → Prop} (h : P (.str (nm wv k)) []) : CallsN w 444 [.str (wn wv k i)] [] 4 P := by
  rcases (by omega : wv = 0 ∨ wv = 1 ∨ wv = 2) with rfl | rfl | rfl
  · by_cases h0 : i = 0
    · subst h0
      refine a_can00 (wn 0 k 0) (wn_len hw hk hi) (wn_oth hw hk hi) (g_00_dec ⟨k, hk⟩ ⟨0, hi⟩) (g_01_dec ⟨k, hk⟩ ⟨0, hi⟩) (g_02_dec ⟨k, hk⟩ ⟨0, hi⟩) (s_00_dec ⟨k, hk⟩) ?_
      rw [show wn 0 k 0 = nm 0 k from eq_of_beq (wn_0_dec ⟨0, hw⟩ ⟨k, hk⟩)]
      exact h
    · have s2 := s_0 hk hi h0 hl
      refine a_can01 (wn 0 k i) (cnd k) (wn_len hw hk hi) (cnd_len hk) (wn_oth hw hk hi) (g_00_dec ⟨k, hk⟩ ⟨i, hi⟩) (by rw [s2]; rfl) s2 ?_
      rw [stm_0]
      exact h
  · by_cases h0 : i = 0
    · subst h0
      refine a_can10 (wn 1 k 0) (wn_len hw hk hi) (wn_oth hw hk hi) (g_10_dec ⟨k, hk⟩ ⟨0, hi⟩) (g_11_dec ⟨k, hk⟩ ⟨0, hi⟩) (g_12_dec ⟨k, hk⟩ ⟨0, hi⟩) (s_10_dec ⟨k, hk⟩) ?_
      rw [show wn 1 k 0 = nm 1 k from eq_of_beq (wn_0_dec ⟨1, hw⟩ ⟨k, hk⟩)]
      exact h
    · have s2 := s_1 hk hi h0 hl
      refine a_can11 (wn 1 k i) (cnd k) (wn_len hw hk hi) (cnd_len hk) (wn_oth hw hk hi) (g_10_dec ⟨k, hk⟩ ⟨i, hi⟩) (g_11_dec ⟨k, hk⟩ ⟨i, hi⟩) (by rw [s2]; rfl) s2 ?_
      rw [stm_1]
      exact h
  · by_cases h0 : i = 0
    · subst h0
      refine a_can20 (wn 2 k 0) (wn_len hw hk hi) (wn_oth hw hk hi) (g_20_dec ⟨k, hk⟩ ⟨0, hi⟩) (g_21_dec ⟨k, hk⟩ ⟨0, hi⟩) (g_22_dec ⟨k, hk⟩ ⟨0, hi⟩) (s_20_dec ⟨k, hk⟩) ?_
      rw [show wn 2 k 0 = nm 2 k from eq_of_beq (wn_0_dec ⟨2, hw⟩ ⟨k, hk⟩)]
      exact h
    · have s2 := s_2 hk hi h0 hl
      refine a_can21 (wn 2 k i) (cnd k) (wn_len hw hk hi) (cnd_len hk) (wn_oth hw hk hi) (g_20_dec ⟨k, hk⟩ ⟨i, hi⟩) (g_21_dec ⟨k, hk⟩ ⟨i, hi⟩) (g_22_dec ⟨k, hk⟩ ⟨i, hi⟩) (by rw [s2]; rfl) s2 ?_
      rw [stm_2]
      exact h
end Mine
theorem Mine.rowsM27_1 : True := by
  (k_with "amcall" => ((with_reducible refine' Mine.CallV.n0 (Mine.a_canon _ _ _ ?zp0 ?zp1 ?zp2 ?zp3 (Mine.Nw0.intro ?_)) ?zhd Mine.Takes.nil); (case zp0 => first | assumption | decide); (case zp1 => assumption); k_extra "c40"))
  trivial
namespace Mine
variable {w : World}
theorem a_initFl (x dx : Addr)  {P : AV → Obj → Prop} (h : ∀ o', IsDict w o' (flE 0 0 0 0 0 0 0) → P .none o') : CallsT w 143 (.ref x :: []) ((x, instObj 202 dx) :: (dx, dictOf [] 0) :: []) dx 1 P := by
  refine' CallsT.of_body (ns := [Str.ofString "self"]) (ds := []) (dvs := []) 0 ?zhU ?zho ?zhcd ?zhdv ?zhb ?zhloc ?zhco ?zhge ?zhki ?zhcell ?zhD ?_
  (case zhU => k_extra "put")
  k_extra "enter"
  repeat' (first | k_extra "am" | fail "end")
  all_goals exact FinT.next (h _ (by assumption)) Takes.all
end Mine
theorem Mine.rowsM28_1 : True := by
  (k_with "amcall" => ((with_reducible refine' Mine.CallV.cls (C := 202) (fI := 143) (sub := []) (d := 1) ?zk1 ?zk2 ?zk3 ?zhd ?zhT fun x' dx' => Mine.a_initFl _ _ fun o' ho' => Mine.NnV.intro ?_); k_extra "c24"))
  trivial
namespace Mine
variable {w : World}
theorem a_initMe (x dx : Addr) {P : AV → Led → Prop} (h : ∀ hd ho o', IsHd w ho [] → (hd == sysModules) = false → IsDict w o' (meE hd) → P .none [(x, instObj 534 dx), (dx, o'), (hd, ho)]) : CallsG w 458 (.ref x :: []) ((x, instObj 534 dx) :: (dx, dictOf [] 0) :: []) 1 P := by
  refine' CallsG.of_body (ns := [Str.ofString "self"]) (ds := []) (dvs := []) 0 ?zho ?zhcd ?zhdv ?zhb ?zhloc ?zhco ?zhge ?zhki ?zhcell ?zhD ?_
  k_extra "enter"
  repeat' (first | k_extra "am" | fail "end")
  all_goals exact FinG.next (h _ _ _ (by assumption) (by assumption) (by assumption)) (by k_extra "take")
end Mine
theorem Mine.rowsM28_2 : True := by
  (k_with "amcall" => ((with_reducible refine' Mine.CallV.clsG (C := 534) (fI := 458) (sub := []) (d := 1) ?zk1 ?zk2 ?zk3 ?zhd ?zhT fun x' dx' => Mine.a_initMe _ _ fun hd' ho' o' hh' hlo' hm' => Mine.NnV.intro ?_); k_extra "c43"))
  trivial
namespace Mine
variable {w : World}
section r29
variable {S : Scope} {D : Nat} {c : Cx w S D} {l : Locs} {led : Led} {P : AV → Led → Prop} {a : Addr} {o : Obj} {vs : List AV} {kk : Int}
theorem Bin.mulLs (h1 : (a, o) ∈ led) (hi : IsLs o vs) (h0 : 0 ≤ kk) (hk : kk ≤ 64) (hz : Nat.ble vs.length 4 = true) (h : ∀ D' o', P (.ref D') ((D', o') :: led)) : Bin c l .Mult (.ref a) (.int kk) led P := fun u v hu hv s Q E hA hQ => by
  obtain rfl : u = .ref a := hu
  obtain ⟨t, rfl⟩ := hv
  obtain ⟨us, n, rfl, hvs⟩ := hi
  obtain ⟨⟨m, F, hl⟩, N, nd⟩ := hA
  have hL := hvs.len
  have hb := Nat.le_of_ble_eq_true hz
  exact KMa.mul F N (N.isList h1) (by omega) (by omega) (Nat.le_trans (Nat.mul_le_mul (show us.length ≤ 4 by omega) (show kk.toNat ≤ 64 by omega)) (by decide)) rfl fun D' h' F' N' hD => hQ _ _ _ h' s.toks (h D' _) rfl (At.cons F' hl N' hD nd)
theorem pair_val {M : Model} {A : Around} {E : Value → Shared → Prop} {s : Shared} {e : Sem Value} {pos : Pos} {Q : Value → Shared → Prop} (h : wpAny M A e Q E s) : wpAny M A (do let x ← e; standAt pos; pure x) Q E s :=
  wpAny_bind (wpAny_mono h (fun _ _ h1 => wpAny_bind (wpAny_standAt (wpAny_pure h1))) fun _ _ x => x)
theorem Ev.dict2 {x1 x2 : Str} {i1 i2 : Int} {k1 k2 k3 k4 : Nat} {p1 p2 p3 p4 pos : Pos} (hne : ([x1, x2] : List Str).Nodup) (h : ∀ d o, P (.ref d) ((d, o) :: led)) : Ev c l led (.Dict [some (.Constant (.str x1) k1 p1), some (.Constant (.str x2) k2 p2)] [.Constant (.int i1) k3 p3, .Constant (.int i2) k4 p4] pos) P := fun s Q E hA hQ => by
  obtain ⟨⟨m, F, hl⟩, N, nd⟩ := hA
  refine kdn_str rfl F N (TopRead.nolimit (topRead_of c.T)) rfl rfl (List.cons_ne_nil _ _) (Nat.le_of_ble_eq_true rfl) fun d h' o F' N' hD hlo hd => ?_
  refine evalPairs_cons (Constant_str (pair_val (wpAny_Constant_int (evalPairs_cons (Constant_str (pair_val (wpAny_Constant_int (evalPairs_nil ?_))))))))
  have A1 := At.cons F' hl N' hD nd
  exact kdn_made_str F' N' ((Put.head).to_updF A1.nd) hd rfl hne fun h2 o2 F2 N2 _ => hQ _ _ _ h2 _ (h d o2) rfl (At.cons F2 hl N2 hD nd)
end r29
end Mine
theorem Mine.rows29 : True := by
  (k_with "ambin" => ((with_reducible refine' Mine.Bin.mulLs ?zh1 ?zi1 ?zp0 ?zp1 ?zhz ?_); (case zh1 => k_mem); (case zi1 => assumption); (case zp0 => decide); (case zp1 => decide); (case zhz => exact rfl); intro l' o'))
  (k_with "amEv" => ((with_reducible refine' Mine.Ev.dict2 ?zp0 ?_); (case zp0 => decide); intro d' o'))
  trivial
namespace Mine
variable {w : World}
theorem a_initSt (x dx : Addr) {P : AV → Led → Prop} (h : ∀ rl xl fx fd mx md hd sg o' fo mo ho, IsDict w o' (stE rl xl fx mx sg 0) → IsDict w fo (flE 0 0 0 0 0 0 0) → IsDict w mo (meE hd) → IsHd w ho [] → (hd == sysModules) = false → P .none [(x, instObj 651 dx), (dx, o'), (fx, instObj 202 fd), (fd, fo), (mx, instObj 534 md), (md, mo), (hd, ho)]) : CallsG w 559 (.ref x :: [.none]) ((x, instObj 651 dx) :: (dx, dictOf [] 0) :: []) 4 P := by
  refine' CallsG.of_body (ns := [Str.ofString "self", Str.ofString "iset"]) (ds := []) (dvs := []) 3 ?zho ?zhcd ?zhdv ?zhb ?zhloc ?zhco ?zhge ?zhki ?zhcell ?zhD ?_
  k_extra "enter"
  repeat' (first | k_extra "am" | fail "end")
  all_goals exact FinG.next (h _ _ _ _ _ _ _ _ _ _ _ _ (by assumption) (by assumption) (by assumption) (by assumption) (by assumption)) (by k_extra "take")
end Mine
theorem Mine.rowsM30_1 : True := by
  (k_with "amcall" => ((with_reducible refine' Mine.CallV.clsG (C := 651) (fI := 559) (sub := []) (d := 4) ?zk1 ?zk2 ?zk3 ?zhd ?zhT fun x' dx' => Mine.a_initSt _ _ fun rl' xl' fx' fd' mx' md' hd' sg' o' fo' mo' ho' hs' hf' hm' hh' hlo' => Mine.NnV.intro ?_); k_extra "c43"))
  trivial
namespace Mine
variable {w : World} {S : Scope} {D : Nat}
noncomputable def ForE (c : Cx w S D) (x y : Str) (body rest : List Stmt) (R : Out → Locs → Led → Prop) : List (Int × Int) → Locs → Led → Prop
  | [], l, led => Run c l led rest R
  | p :: ps, l, led => ∀ q1 q2 : Addr × Obj, Run c ((y, .int p.2) :: (x, .int p.1) :: l) (q1 :: q2 :: led) body fun o l' led' => o = .next ∧ ∃ led2 led'' l1 led1, Rem q1 led' led2 ∧ Rem q2 led2 led'' ∧ (∀ z v, l1.lookup z = some v → l'.lookup z = some v) ∧ Takes led1 led'' ∧ ForE c x y body rest R ps l1 led1
section fors
variable {c : Cx w S D} {l : Locs} {led : Led} {P : AV → Led → Prop} {R : Out → Locs → Led → Prop} {x y : Str} {pos tpos px py : Pos} {body rest : List Stmt} {k : Nat}
theorem forE_rest {s : Shared} {Q : Flow → Shared → Prop} {E : Value → Shared → Prop} {I : Addr} (hx : S.names.lookup x = some .local) (hy : S.names.lookup y = some .local) (hE : PassesOwn (model PW w) c.A c.env E)
    (hQ : ∀ o l' led' f h' tk', R o l' led' → o.Is f → At c.g c.L h' l' led' → Q f { s with heap := h', toks := tk' }) :
    ∀ {ps : List (Int × Int)} {l : Locs} {led : Led} {m : Str → Option Value}, (∀ x v, l.lookup x = some v → ∃ u, m x = some u ∧ v.Is u) → (led.map (·.1)).Nodup → (∀ p ∈ led, p.1 ≠ I + 1 ∧ p.1 ≠ I) → ForE c x y body rest R ps l led →
      ItemsRest PW w c.A E c.g c.env (.Tuple [.Name x px, .Name y py] k tpos) body (fun f s' => match f with | .next => wpAny (model PW w) c.A (execs rest c.env) Q E s' | f => Q f s') s [(I + 1, "enumerate"), (I, "bytes_iterator")] [] (ps.map fun p => Itm.pairF (fun t => .int p.1 t) (.int p.2)) m led
  | [], l, led, m, hl, nd, hI, h => fun h' tk F N => h { s with heap := h', toks := tk } Q E hE ⟨⟨m, F, hl⟩, N, nd⟩ fun o l' led' f h2 tk2 hR ho hA => hQ o l' led' f h2 tk2 hR ho hA
  | p :: ps, l, led, m, hl, nd, hI, h => by
    refine ItemsRest.pairF fun T t xv h' tk hx' hT F => AllObj.cons fun o1 _ => AllObj.cons fun o2 _ => AllObj.nil fun N => ?_
    obtain ⟨tv, rfl⟩ : ∃ tv, xv = .int p.2 tv := hx'.int_inv
    refine unpackN_ F N hT rfl rfl rfl fun h1 F1 N1 => ?_
    refine assignInOrder_cons (assign_Name (storeX_L F1 N1 (fun h2 F2 N2 => ?_) c.hk hx))
    refine assignInOrder_cons (assign_Name (storeX_L F2 N2 (fun h3 F3 N3 => ?_) c.hk hy))
    refine assignInOrder_nil ?_
    have hl2 := loc_put (PutL.new (x := y)) (show (AV.int p.2).Is _ from ⟨tv, rfl⟩) (loc_put (PutL.new (x := x)) (show (AV.int p.1).Is _ from ⟨t, rfl⟩) hl)
    refine h (I + 1, o1) (I, o2) _ _ E hE ⟨⟨_, F3, hl2⟩, N3, ?_⟩ fun o l' led' fl h4 tk4 hP ho hA => ?_
    · rw [List.map_cons, List.map_cons, List.nodup_cons, List.nodup_cons]
      refine ⟨fun hm => ?_, fun hm => ?_, nd⟩
      · rcases List.mem_cons.mp hm with e | hm
        · exact Nat.succ_ne_self I e
        · obtain ⟨p, hp, e⟩ := List.mem_map.mp hm; exact (hI p hp).1 e
      · obtain ⟨p, hp, e⟩ := List.mem_map.mp hm; exact (hI p hp).2 e
    · obtain ⟨rfl, led2, led'', l1, led1, r1, r2, hs, ht, hF⟩ := hP
      obtain rfl : fl = .next := ho
      obtain ⟨⟨m4, F4, hl4⟩, N4, nd4⟩ := hA.weak hs .all
      have pm := r1.perm.trans (r2.perm.cons _)
      have T2 : Takes ((I + 1, o1) :: (I, o2) :: led1) led' := .cons r1 (.cons r2 ht)
      have nd5 := T2.nd nd4
      rw [List.map_cons, List.map_cons, List.nodup_cons, List.nodup_cons] at nd5
      have off : ∀ p ∈ led1, p.1 ≠ I + 1 ∧ p.1 ≠ I := fun p hp => ⟨fun e => nd5.1 (.tail _ (e ▸ List.mem_map_of_mem (f := (·.1)) hp)), fun e => nd5.2.1 (e ▸ List.mem_map_of_mem (f := (·.1)) hp)⟩
      refine ⟨h4, tk4, m4, led1, rfl, F4, fun p hp => N4 p (T2.mem p hp), fun p hp q hq => ?_, trivial, forE_rest hx hy hE hQ hl4 nd5.2.2 off hF⟩
      rcases List.mem_cons.mp hq with rfl | hq
      · exact (off p hp).1
      · rw [List.mem_singleton.mp hq]; exact (off p hp).2
end fors
end Mine
namespace Mine
variable {w : World} {S : Scope} {D : Nat}
section fors
variable {c : Cx w S D} {l : Locs} {led : Led} {P : AV → Led → Prop} {R : Out → Locs → Led → Prop} {x y : Str} {pos cpos fpos tpos px py : Pos} {body rest : List Stmt} {k : Nat}
def EnmV (vs : List AV) (X : List (Int × Int) → Prop) : Prop := ∃ (b : Array UInt8) (t : Tok) (ps : List (Int × Int)), vs = [.val (.bytes b t)] ∧ b.size = ps.length ∧ (∀ (i : Nat) (c : UInt8), b[i]? = some c → (ps.map fun p => Itm.pairF (fun t => .int p.1 t) (.int p.2))[i]? = some (.pairF (fun t => .int (i : Int) t) (.int (c.toNat : Int)))) ∧ X ps
theorem Run.forEnum {e : PySem.Expr} (hx : S.names.lookup x = some .local) (hy : S.names.lookup y = some .local) (n : nsIn (K w.params) mainGlobals (Str.ofString "enumerate") = some Option.none) (hv : bootBuiltins (Str.ofString "enumerate") = some (.type "enumerate")) (hn : Str.ofString "enumerate" ≠ "__name__") (hf0 : S.names.lookup (Str.ofString "enumerate") = some .globalImplicit) (hd : (Str.ofString "enumerate" == ("__debug__" : Str)) = false)
    (h : Evs c l led [e] fun vs led' => EnmV vs fun ps => ForE c x y body rest R ps l led')
    (hs : starEach [e] c.env = (false, eval e c.env) :: starEach [] c.env) (ha : ∀ pos, ((backTo pos (starEach [] c.env)).any fun x => x.1) = false)
    (hc : eval (.Call (.Name (Str.ofString "enumerate") fpos) [e] [] cpos) c.env = (do let g ← eval (.Name (Str.ofString "enumerate") fpos) c.env; callWith cpos g [] (backTo cpos (starEach [e] c.env)) (backToKw cpos (keywordEach [] c.env))))
    (hf : ∀ v, foldedSetIterable (.Call (.Name (Str.ofString "enumerate") fpos) [e] [] cpos) c.env v = pure v) : Run c l led (.For (.Tuple [.Name x px, .Name y py] k tpos) (.Call (.Name (Str.ofString "enumerate") fpos) [e] [] cpos) body [] pos :: rest) R := fun s Q E hE hA hQ => by
  obtain ⟨m0, F0, _⟩ := hA.fr
  refine wpAny_execs_cons (For_turns (h₀ := c.g) (env := c.env) F0 ?_ hf hE)
  refine Call_ (nameX_B F0 c.X (topRead_of c.T) n hv hn ?_ c.hk hf0 hd) hc
  refine PyProof.Rows.callWith_type1 (h cpos s _ E hA fun vs led2 us h2 tk2 hC hvs hA2 => ?_) hs (ha cpos)
  obtain ⟨b, t, ps, rfl, hb, hi, hF⟩ := hC
  match us, hvs with
  | [_], ⟨rfl, _⟩ =>
  obtain ⟨⟨m, F, hl⟩, N, nd⟩ := hA2
  exact enum_bytes_turns rfl F N (by rw [List.length_map]; exact hb) hi fun I hI => forE_rest (s := { s with heap := h2, toks := tk2 }) hx hy hE hQ hl nd (fun p hp => ⟨Nat.ne_of_lt (Nat.lt_succ_of_lt (hI p hp)), Nat.ne_of_lt (hI p hp)⟩) hF
end fors
end Mine
namespace Mine
variable {w : World}
section r33
variable {S : Scope} {D : Nat} {c : Cx w S D} {l l1 : Locs} {led led1 led2 led'' : Led} {P : AV → Led → Prop} {R : Out → Locs → Led → Prop} {x y : Str} {body rest : List Stmt} {q1 q2 : Addr × Obj} {ps : List (Int × Int)} {p : Int × Int} {a : Addr} {o : Obj}
def ForES (c : Cx w S D) (x y : Str) (body rest : List Stmt) (R : Out → Locs → Led → Prop) (q1 q2 : Addr × Obj) (ps : List (Int × Int)) : Out → Locs → Led → Prop := fun o l' led' => o = .next ∧ ∃ led2 led'' l1 led1, Rem q1 led' led2 ∧ Rem q2 led2 led'' ∧ (∀ z v, l1.lookup z = some v → l'.lookup z = some v) ∧ Takes led1 led'' ∧ ForE c x y body rest R ps l1 led1
theorem ForE.nil (h : Run c l led rest R) : ForE c x y body rest R [] l led := h
theorem ForE.cons (h : ∀ q1 q2, Run c ((y, .int p.2) :: (x, .int p.1) :: l) (q1 :: q2 :: led) body (ForES c x y body rest R q1 q2 ps)) : ForE c x y body rest R (p :: ps) l led := h
theorem ForES.next {v1 v2 : AV} (hx : l.lookup x = none) (hy : l.lookup y = none) (h1 : Rem q1 led led2) (h2 : Rem q2 led2 led'') (h4 : ForE c x y body rest R ps l led'') : ForES c x y body rest R q1 q2 ps .next ((y, v1) :: (x, v2) :: l) led :=
  ⟨rfl, led2, led'', l, led'', h1, h2, fun z v e => by
    have n1 : (z == x) = false := beq_eq_false_iff_ne.mpr fun q => by rw [q, hx] at e; cases e
    have n2 : (z == y) = false := beq_eq_false_iff_ne.mpr fun q => by rw [q, hy] at e; cases e
    rw [List.lookup_cons, n2, List.lookup_cons, n1]; exact e, .all, h4⟩
theorem EnmV.b3 {X : List (Int × Int) → Prop} {t : Tok} (h : X [(0, 7), (1, 9), (2, 11)]) : EnmV [.val (.bytes #[7, 9, 11] t)] X := ⟨#[7, 9, 11], t, [(0, 7), (1, 9), (2, 11)], rfl, rfl, b3_at, h⟩
theorem VIs.ints : ∀ {ns : List Int} {us : List Value}, VIs (ns.map .int) us → IntsAre us ns
  | [], [], _ => .nil
  | _ :: _, _ :: _, ⟨⟨_, rfl⟩, h⟩ => .cons _ _ (VIs.ints h)
theorem CallV.bytes3 (ho : (a, o) ∈ led) (hi : IsLs o [.int 7, .int 9, .int 11]) (h : ∀ t, P (.val (.bytes #[7, 9, 11] t)) led) : CallV c l (.type "bytes") [.ref a] led P := fun us hv s Q E hA hQ => by
  match us, hv with
  | [u], ⟨i, _⟩ =>
    obtain rfl : u = .ref a := i
    obtain ⟨us, n, rfl, hs⟩ := hi
    obtain ⟨⟨m, F, hl⟩, N, nd⟩ := hA
    have hs' : VIs ([7, 9, 11].map AV.int) us := hs
    exact bytes_K F N (N.isList ho) (VIs.ints hs') (by decide) (by rw [hs.len]; exact Nat.le_of_ble_eq_true rfl) rfl fun h' t k F' N' _ => hQ _ _ _ h' k (h t) rfl ⟨⟨m, F', hl⟩, N', nd⟩
end r33
end Mine
theorem Mine.rowsM33_1 : True := by
  (k_with "amRun" => ((with_reducible refine' Mine.Run.forEnum ?zhx ?zhy ?zn ?zhv ?zhn ?zhf0 ?zhd ?_ ?zhs ?zha ?zhc ?zhf); k_extra "c51"; (case zn => k_is); (case zhv => kernel_rfl); (case zhn => exact Mine.neS_of (by kernel_rfl)); (case zhf0 => kernel_rfl); (case zhd => kernel_rfl); k_extra "c52"; (case zhf => intro; kernel_rfl)))
  (k_with "amX" => (with_reducible refine' Mine.EnmV.b3 ?_))
  (k_with "amX" => (with_reducible refine' Mine.ForE.nil ?_))
  (k_with "amX" => ((with_reducible refine' Mine.ForE.cons ?_); intro q1 q2; dsimp only))
  (k_with "amX" => ((with_reducible refine' Mine.ForES.next ?zhx ?zhy ?zh1 ?zh2 ?_); k_extra "c51"; (case zh1 => k_extra "rem"); (case zh2 => k_extra "rem")))
  (k_with "amcall" => ((with_reducible refine' Mine.CallV.bytes3 ?zho ?zhi ?_); k_extra "c5"; intro t'))
  (k_with "amEv" => ((with_reducible refine' Mine.Ev.callT (f := Str.ofString "bytes") (id := "bytes") ?zn ?zhv ?zhn ?zhx ?zhd ?_ ?zhs ?zha ?zhc); k_extra "c1"))
  trivial
theorem Mine.rowsM33_2 : True := by
  (k_with "dlen" => first | assumption | exact Nat.le_of_ble_eq_true rfl | exact Nat.le_trans (Mine.hput_le (Nat.le_refl _)) (Nat.le_of_ble_eq_true rfl) | exact Nat.le_trans (Mine.hput_le (Mine.hput_le (Nat.le_refl _))) (Nat.le_of_ble_eq_true rfl))
  (k_with "amcall" => ((with_reducible refine' Mine.CallV.t (Mine.a_setOctet _ _ _ _ _ _ _ _ ?zp0 ?zp1 ?zp2 (fun o' ho' => ?_)) ?zhd (Mine.Takes.cons ?zt1 (Mine.Takes.cons ?zt2 (Mine.Takes.cons ?zt3 Mine.Takes.nil))) ?zhU); k_extra "c44"; (case zhU => k_extra "put"); (case zp2 => k_extra "dlen"); (case zhd => decide)))
  trivial
namespace Mine
variable {w : World}
theorem a_load (mx md hd : Addr) (mo ho : Obj) (p0 : Int) (t : Tok) (hmo : IsDict w mo (meE hd)) (hho : IsHd w ho []) (h0 : 4096 ≤ p0) (h1 : p0 < 65536) {P : AV → Obj → Prop} (h : ∀ o', IsHd w o' [(p0, 7), (p0 + 1, 9), (p0 + 2, 11)] → P .none o') : CallsT w 493 [.ref mx, .int p0, .val (.bytes #[7, 9, 11] t)] [(mx, instObj 534 md), (md, mo), (hd, ho)] hd 4 P := by
  refine' CallsT.of_body (ns := [Str.ofString "self", Str.ofString "place", Str.ofString "octets"]) (ds := []) (dvs := []) 3 ?zhU ?zho ?zhcd ?zhdv ?zhb ?zhloc ?zhco ?zhge ?zhki ?zhcell ?zhD ?_
  (case zhU => k_extra "put")
  k_extra "enter"
  repeat' (first | k_extra "am" | fail "end")
  all_goals exact FinT.next (h _ (IsHd.cast (by assumption) (load3 h0 h1))) (by k_extra "take")
end Mine
theorem Mine.rowsM33_3 : True := by
  (k_with "amcall" => ((with_reducible refine' Mine.CallV.t (Mine.a_load _ _ _ _ _ _ _ ?zp0 ?zp1 ?zp2 ?zp3 (fun o' ho' => ?_)) ?zhd (Mine.Takes.cons ?zt1 (Mine.Takes.cons ?zt2 (Mine.Takes.cons ?zt3 Mine.Takes.nil))) ?zhU); k_extra "c44"; k_extra "c20"; k_extra "c22"))
  trivial
namespace Mine
variable {w : World}
section r34
open PyProof.Rows.LCg PyProof.Rows.LCt
variable {S : Scope} {D : Nat} {c : Cx w S D} {l : Locs} {led : Led} {env : Env} {x : Str} {pos px : Pos} {k : Nat} {a C : Addr} {o oC : Obj}
def EvH (c : Cx w S D) (env : Env) (led : Led) (e : PySem.Expr) (P : AV → Prop) : Prop := ∀ (m : Str → Option Value) (s : Shared) (Q E : Value → Shared → Prop), Fr c.g c.L s.heap m → News c.g c.L s.heap led → (∀ v u tk', P v → v.Is u → Q u { s with heap := s.heap, toks := tk' }) → wpAny (model PW w) c.A (eval e env) Q E s
def TrH (c : Cx w S D) (env : Env) (led : Led) (e : PySem.Expr) (b : Bool) : Prop := ∀ (m : Str → Option Value) (s : Shared) (Q : Bool → Shared → Prop) (E : Value → Shared → Prop), Fr c.g c.L s.heap m → News c.g c.L s.heap led → (∀ tk', Q b { s with heap := s.heap, toks := tk' }) → wpAny (model PW w) c.A (isTrue e env (eval e env)) Q E s
def NsC (oC : Obj) (x : Str) (v : AV) : Prop := ∃ m₂ u, NsObj oC m₂ ∧ m₂ x = some u ∧ v.Is u
variable {scope : Scope} {cl : List (Str × Addr)} {b e : PySem.Expr} {n : Str} {P : AV → Prop}
theorem EvH.loc {v : AV} (hm : (C, oC) ∈ led) (hn : NsC oC x v) (hk : (compEnvC scope cl C env).scope.kind = .function) (hx : (compEnvC scope cl C env).kindOf x = some .local) (hd : (x == ("__debug__" : Str)) = false) (h : P v) : EvH c (compEnvC scope cl C env) led (.Name x pos) P := fun m s Q E F N hQ => by
  obtain ⟨m₂, u, h1, h2, h3⟩ := hn
  exact LCgL.ld_own N hm h1 h2 (hQ v u s.toks h h3) hk hx hd
theorem EvH.cell {v : Value} (hc : cl.lookup x = some a) (hm : (a, o) ∈ led) (hd : o.data = .cell (some v)) (hk : (compEnvC scope cl C env).scope.kind = .function) (hx : (compEnvC scope cl C env).kindOf x = some .cell) (hb : (x == ("__debug__" : Str)) = false) (h : P (.val v)) : EvH c (compEnvC scope cl C env) led (.Name x pos) P := fun m s Q E F N hQ =>
  lcf_cell N hc hm hd (hQ _ v s.toks h rfl) hk hx hb
theorem EvH.int {i : Int} (h : P (.int i)) : EvH c env led (.Constant (.int i) k pos) P := fun m s Q E F N hQ => wpAny_Constant_int (hQ _ _ (s.toks + 1) h ⟨_, rfl⟩)
theorem EvH.attr {a d C : Addr} {o : Obj} {es : Locs} {fa : Option Value} {v : AV} (h : EvH c env led e fun v => v = .ref a) (ha : (a, instObj C d) ∈ led) (hd : (d, o) ∈ led) (ho : IsDict w o es) (hv : es.lookup n = some v) (h1 : plainGet (K w.params) C n = true) (h2 : hasDictIn (K w.params) C = true) (h3 : findIn (K w.params) (.ref C) n = some fa) (h4 : noGet (K w.params) fa = true) (h5 : v.hand = true)
    (hs : eval (.Attribute e n pos) env = (do let o ← eval e env; standAt pos.atName; let r ← holding [o] (getAttr o n true); letTemporaryGo e o r; pure r)) (hP : P v) : EvH c env led (.Attribute e n pos) P := fun m s Q E F N hQ =>
  Attribute_any_ (h m s _ E F N fun v' u tk' e' hu => by
    subst e'
    obtain rfl : u = .ref a := hu
    obtain ⟨ds, rfl, hD⟩ := ho
    obtain ⟨u, hu, i⟩ := hD.get hv
    exact get_own F c.X (InstAt.of_news N ha hd) h1 h2 h3 h4 hu (AV.hand_of i h5) (hQ v u (tk' + 1) hP i)) hs
theorem EvH.subD {d : Addr} {o : Obj} {Dl : List (Int × Int)} {i : PySem.Expr} {kk v : Int} (h : EvH c env led b fun v => v = .ref d) (hi : EvH c env led i fun v => v = .int kk) (hlo : (d == sysModules) = false) (hm : (d, o) ∈ led) (hD : IsHd w o Dl) (hl : hlook kk Dl = some v)
    (hs : ∀ t, subscripted i false (.ref d) (.int kk t) = operate [.ref d, .int kk t] (getItem (.ref d) (.int kk t))) (hP : P (.int v)) : EvH c env led (.Subscript b i pos) P := fun m s Q E F N hQ => by
  obtain ⟨kvs, hd, hv⟩ := hD
  refine Subscript_ (h m s _ E F N fun v1 u1 tk1 e1 hu1 => ?_)
  subst e1
  obtain rfl : u1 = .ref d := hu1
  refine hi m { s with heap := s.heap, toks := tk1 } _ E F N fun v2 u2 tk2 e2 hu2 => ?_
  subst e2
  obtain ⟨t, rfl⟩ := hu2
  exact hd_item hlo hd hv (s := { s with heap := s.heap, toks := tk2 }) N hm hl (fun t' tk' => hQ _ _ tk' hP ⟨t', rfl⟩) (hs t)
theorem EvH.subT {d : Addr} {o : Obj} {vs : List AV} {i : PySem.Expr} {kk : Int} {j : Nat} {v : AV} (h : EvH c env led b fun v => v = .ref d) (hi : EvH c env led i fun v => v = .int kk) (hm : (d, o) ∈ led) (ht : IsTp o vs) (h0 : -2 ^ 63 ≤ kk) (h1 : kk < 2 ^ 63) (hj : seqIndex? kk vs.length = some j) (hv : vs[j]? = some v)
    (hs : ∀ t, subscripted i false (.ref d) (.int kk t) = operate [.ref d, .int kk t] (getItem (.ref d) (.int kk t))) (hP : P v) : EvH c env led (.Subscript b i pos) P := fun m s Q E F N hQ => by
  obtain ⟨us, rfl, hvs⟩ := ht
  obtain ⟨u, hu, iu⟩ := hvs.at hv
  refine Subscript_ (h m s _ E F N fun v1 u1 tk1 e1 hu1 => ?_)
  subst e1
  obtain rfl : u1 = .ref d := hu1
  refine hi m { s with heap := s.heap, toks := tk1 } _ E F N fun v2 u2 tk2 e2 hu2 => ?_
  subst e2
  obtain ⟨t, rfl⟩ := hu2
  exact item_tupleT (s := { s with heap := s.heap, toks := tk2 }) (N.isTup hm) h0 h1 (by rw [hvs.len]; exact hj) hu (hQ _ _ tk2 hP iu) (hs t)
theorem TrH.ne {i1 i2 : Int} (h : EvH c env led b fun v => v = .int i1) (h' : EvH c env led e fun v => v = .int i2) (hm : behindInMarks .NotEq e = false) : TrH c env led (.Compare b [.NotEq] [e] pos) (i1 != i2) := fun m s Q E F N hQ =>
  wpAny_isTrue_Compare1 (h m s _ E F N fun v1 u1 tk1 e1 hu1 => by
    subst e1
    obtain ⟨t1, rfl⟩ := hu1
    refine h' m { s with heap := s.heap, toks := tk1 } _ E F N fun v2 u2 tk2 e2 hu2 => ?_
    subst e2
    obtain ⟨t2, rfl⟩ := hu2
    exact ne_int (wpAny_truthy_bool (hQ tk2))) hm
noncomputable def ForC (c : Cx w S D) (ct elt : PySem.Expr) (x : Str) (scope : Scope) (cl : List (Str × Addr)) (Fin : List AV → Led → Prop) : List AV → List AV → Led → Prop
  | [], ys, led => Fin ys led
  | v :: vs, ys, led => ∃ b, (∀ C oC, NsC oC x v → TrH c (compEnvC scope cl C c.env) ((C, oC) :: led) ct b) ∧ (b = false → ForC c ct elt x scope cl Fin vs ys led) ∧
      (b = true → (∃ y, (∀ C oC, NsC oC x v → EvH c (compEnvC scope cl C c.env) ((C, oC) :: led) elt fun v => v = y) ∧ ForC c ct elt x scope cl Fin vs (ys ++ [y]) led) ∨
        (∃ e1 e2 k pos y1 y2, elt = .Tuple [e1, e2] k pos ∧ (∀ C oC, NsC oC x v → EvH c (compEnvC scope cl C c.env) ((C, oC) :: led) e1 fun v => v = y1) ∧ (∀ C oC, NsC oC x v → EvH c (compEnvC scope cl C c.env) ((C, oC) :: led) e2 fun v => v = y2) ∧
          (∀ C, starEach [e1, e2] (compEnvC scope cl C c.env) = (false, eval e1 (compEnvC scope cl C c.env)) :: starEach [e2] (compEnvC scope cl C c.env)) ∧ (∀ C, starEach [e2] (compEnvC scope cl C c.env) = (false, eval e2 (compEnvC scope cl C c.env)) :: starEach [] (compEnvC scope cl C c.env)) ∧
          ∀ D' o, IsTp o [y1, y2] → ForC c ct elt x scope cl Fin vs (ys ++ [.ref D']) ((D', o) :: led)))
theorem nd_of {I C D : Addr} {oI oC oD : Obj} {led : Led} (off : Off3 I C D led) (ne : ((@Ne Nat I C) ∧ (@Ne Nat I D) ∧ (@Ne Nat C D))) (nd : (led.map (·.1)).Nodup) : ((((I, oI) :: (C, oC) :: (D, oD) :: led : Led)).map (·.1)).Nodup := by
  have om := off.mem
  rw [List.map_cons, List.map_cons, List.map_cons, List.nodup_cons, List.nodup_cons, List.nodup_cons]
  have no : ∀ z, (∀ p ∈ led, p.1 ≠ z) → z ∉ led.map (·.1) := fun z h hm => by obtain ⟨p, hp, e⟩ := List.mem_map.mp hm; exact h p hp e
  refine ⟨fun hm => ?_, fun hm => ?_, no D fun p hp => (om p hp).2.2, nd⟩
  · rcases List.mem_cons.mp hm with e | hm
    · exact ne.1 e
    · rcases List.mem_cons.mp hm with e | hm
      · exact ne.2.1 e
      · exact no I (fun p hp => (om p hp).1) hm
  · rcases List.mem_cons.mp hm with e | hm
    · exact ne.2.2 e
    · exact no C (fun p hp => (om p hp).2.1) hm
theorem off1_mem {D : Addr} : ∀ {l : Led}, Off1 D l → ∀ p ∈ l, p.1 ≠ D
  | [], _, _, hp => nomatch hp
  | _ :: _, o, p, hp => by
    rcases List.mem_cons.mp hp with rfl | hp
    · exact o.1
    · exact off1_mem o.2 p hp
variable {ct elt : PySem.Expr} {R : AV → Led → Prop}
theorem forC_rest {s : Shared} {Q : Value → Shared → Prop} {m : Str → Option Value} {all : List AV} {Sx : Led → Prop} {Pp : Nat → Value → Prop} {keep : Addr × Obj} (hP : ∀ i u, Pp i u → i < all.length → ∃ v, all[i]? = some v ∧ v.Is u) (hS : ∀ nw, keep ∈ nw → Sx nw)
    (hl : ∀ x v, l.lookup x = some v → ∃ u, m x = some u ∧ v.Is u) (hQ : ∀ v led' u h' tk', R v led' → v.Is u → At c.g c.L h' l led' → Q u { s with heap := h', toks := tk' }) :
    ∀ (k i : Nat) (ys : List AV) (yu : List Value) (led : Led), k + i = all.length → VIs ys yu → (led.map (·.1)).Nodup → keep ∈ led → ForC c ct elt x scope cl (fun ys led => ∀ D' o, IsLs o ys → R (.ref D') ((D', o) :: led)) (all.drop i) ys led →
      CompRestT PW w c.A c.g c.L m c.env ct elt x scope cl s Sx Pp (FinE c.g c.L m s Q) k i yu led
  | 0, i, ys, yu, led, hk, hv, nd, hkp, h => by
    rw [List.drop_of_length_le (by omega)] at h
    refine CompRestT.zero fun D' h' tk F' N' o1 => ?_
    refine hQ (.ref D') _ _ h' tk (h D' (lst yu) ⟨yu, _, rfl, hv⟩) rfl ⟨⟨m, F', hl⟩, N', ?_⟩
    rw [List.map_cons, List.nodup_cons]
    exact ⟨fun hm => by obtain ⟨p, hp, e⟩ := List.mem_map.mp hm; exact off1_mem o1 p hp e, nd⟩
  | k + 1, i, ys, yu, led, hk, hv, nd, hkp, h => by
    refine CompRestT.succ fun v I oI C oC D' m₂ h' tk E' hPv hNs hx' F N off ne => ?_
    obtain ⟨va, e, hva⟩ := hP i v hPv (by omega)
    have hdrop : all.drop i = va :: all.drop (i + 1) := by
      have hi : i < all.length := by omega
      rw [List.getElem?_eq_getElem hi] at e
      rw [List.drop_eq_getElem_cons hi, Option.some.inj e]
    rw [hdrop] at h
    have ih := fun ys yu led => forC_rest hP hS hl hQ k (i + 1) ys yu led
    obtain ⟨b, ht, hf, htt⟩ := h
    have hn : NsC oC x va := ⟨m₂, v, hNs, hx', hva⟩
    have N1 : News c.g c.L h' ((C, oC) :: led) := fun q hq => N q (by
      rcases List.mem_cons.mp hq with rfl | hq
      · exact .tail _ (.head _)
      · exact .tail _ (.tail _ (.tail _ hq)))
    refine ht C oC hn m { s with heap := h', toks := tk } _ E' F N1 fun tk1 => ?_
    cases b with
    | false =>
      refine (if_neg (by decide)).mpr ?_
      exact CompEnd.intro F N led (fun _ h => h) off (hS _ hkp) (ih ys yu led (by omega) hv nd hkp (hf rfl))
    | true =>
      refine (if_pos rfl).mpr ?_
      rcases htt rfl with ⟨y, hy, hF⟩ | ⟨e1, e2, kk, pos, y1, y2, rfl, hy1, hy2, hs1, hs2, hF⟩
      · refine hy C oC hn m { s with heap := h', toks := tk1 } _ E' F N1 fun v' u tk2 e' hu => ?_
        subst e'
        exact CompEnd.intro F N led (fun _ h => h) off (hS _ hkp) (ih (ys ++ [v']) (yu ++ [u]) led (by omega) (hv.app ⟨hu, trivial⟩) nd hkp hF)
      · refine Tuple_ (args_cons (hy1 C oC hn m { s with heap := h', toks := tk1 } _ E' F N1 fun v1 u1 tk2 e' hu1 => ?_) (hs1 C))
        subst e'
        refine args_cons (hy2 C oC hn m { s with heap := h', toks := tk2 } _ E' F N1 fun v2 u2 tk3 e' hu2 => args_nil ?_) (hs2 C)
        subst e'
        refine kup_newTuple F N (fun D2 h2 F2 N2 hD2 => ?_) (Nat.le_of_ble_eq_true rfl)
        refine CompEnd.intro F2 N2 ((D2, _) :: led) (fun p hp => ?_) ?_ (hS _ (.tail _ hkp)) (ih (ys ++ [.ref D2]) (yu ++ [.ref D2]) _ (by omega) (hv.app (show VIs [AV.ref D2] [Value.ref D2] from ⟨rfl, trivial⟩)) ?_ (.tail _ hkp) (hF D2 _ ⟨[u1, u2], rfl, hu1, hu2, trivial⟩))
        · rcases List.mem_cons.mp hp with rfl | hp
          · exact .tail _ (.head _)
          · rcases List.mem_cons.mp hp with rfl | hp
            · exact .tail _ (.tail _ (.head _))
            · rcases List.mem_cons.mp hp with rfl | hp
              · exact .tail _ (.tail _ (.tail _ (.head _)))
              · rcases List.mem_cons.mp hp with rfl | hp
                · exact .head _
                · exact .tail _ (.tail _ (.tail _ (.tail _ hp)))
        · refine ⟨⟨?_, ?_, ?_⟩, off⟩
          · exact Nat.ne_of_gt (hD2 (I, oI) (.head _))
          · exact Nat.ne_of_gt (hD2 (C, oC) (.tail _ (.head _)))
          · exact Nat.ne_of_gt (hD2 (D', _) (.tail _ (.tail _ (.head _))))
        · rw [List.map_cons, List.nodup_cons]
          exact ⟨fun hm => by obtain ⟨p, hp, e⟩ := List.mem_map.mp hm; exact absurd (hD2 p (.tail _ (.tail _ (.tail _ hp)))) (by have e' : p.1 = D2 := e; rw [e']; exact Nat.lt_irrefl _), nd⟩
theorem HV.len : ∀ {kvs : List (Int × Value)} {Dl : List (Int × Int)}, HV kvs Dl → kvs.length = Dl.length
  | _, _, .nil => rfl
  | _, _, .cons h => congrArg (· + 1) (HV.len h)
theorem HV.key : ∀ {kvs : List (Int × Value)} {Dl : List (Int × Int)} {i : Nat}, HV kvs Dl → i < Dl.length → (Dl.map fun p => AV.int p.1)[i]? = some (.int (kvs.getD i (0, .none)).1)
  | _, _, _, .nil, h => absurd h (Nat.not_lt_zero _)
  | _, _, 0, .cons _, _ => rfl
  | _, _, i + 1, .cons h, hi => by
    rw [List.map_cons, List.getElem?_cons_succ, List.getD_cons_succ]
    exact HV.key h (Nat.lt_of_succ_lt_succ hi)
theorem EvH.nameC {v : Value} (hc : c.cl.lookup x = some a) (hm : (a, o) ∈ led) (hd : o.data = .cell (some v)) (hx : S.names.lookup x = some .cell) (hb : (x == ("__debug__" : Str)) = false) (h : P (.val v)) : EvH c c.env led (.Name x pos) P := fun m s Q E F N hQ =>
  nameX_C N hc hm hd (hQ _ v s.toks h rfl) c.hk hx hb
theorem Ev.compD {iter : PySem.Expr} {d : Addr} {od : Obj} {Dl : List (Int × Int)} (hclos : closureFor scope c.env = pure cl) (hcell : ∀ y ∈ scope.names, y.2 ≠ .cell) (hkind : scope.kind = .function) (hnames : ∀ y ∈ scope.names, y.2 = .local → scope.names.lookup y.1 = some .local) (hx : scope.names.lookup x = some .local) (hs : ∀ x, foldedSetIterable iter c.env x = pure x)
    (h : EvH c c.env led iter fun v => v = .ref d) (hm : (d, od) ∈ led) (hlo : (d == sysModules) = false) (hD : IsHd w od Dl) (hz : Dl.length ≤ 16) (hF : ForC c ct elt x scope cl (fun ys led => ∀ D' o, IsLs o ys → R (.ref D') ((D', o) :: led)) (Dl.map fun p => .int p.1) [] led) : Ev c l led (.ListComp elt [⟨.Name x px, iter, [ct], 0⟩] scope pos) R := fun s Q E hA hQ => by
  obtain ⟨⟨m, F, hl⟩, N, nd⟩ := hA
  refine ListComp_D (L := c.L) F hclos hcell hkind hnames hx ?_ hs
  refine h m s _ E F N fun v u tk' e hu => ?_
  subst e
  obtain rfl : u = .ref d := hu
  obtain ⟨kvs, hd, hv⟩ := hD
  have hkl := HV.len hv
  refine SrcDT.mk (s₁ := { s with heap := s.heap, toks := tk' }) rfl hlo F N hm hd (Nat.le_trans (Nat.le_of_eq hkl) (Nat.le_trans hz (Nat.le_of_ble_eq_true rfl))) fun g => ?_
  refine forC_rest (R := R) (s := { s with heap := g, toks := tk' }) (Sx := fun nw => (d, od) ∈ nw) (Pp := fun i v => ∃ t, v = .int (kvs.getD i (0, .none)).1 t) (all := Dl.map fun p => AV.int p.1) (keep := (d, od)) (l := l) (fun i u hp hi => ?_) (fun nw h => h) hl hQ kvs.length 0 [] [] led ?_ trivial nd hm (by rw [List.drop_zero]; exact hF)
  · obtain ⟨t, rfl⟩ := hp
    exact ⟨_, HV.key hv (by rw [List.length_map] at hi; exact hi), t, rfl⟩
  · rw [List.length_map, hkl]; rfl
theorem Ev.compL {y : Str} {py : Pos} {vs : List AV} (hclos : closureFor scope c.env = pure cl) (hcell : ∀ y ∈ scope.names, y.2 ≠ .cell) (hkind : scope.kind = .function) (hnames : ∀ y ∈ scope.names, y.2 = .local → scope.names.lookup y.1 = some .local) (hx : scope.names.lookup x = some .local) (hs : ∀ x, foldedSetIterable (.Name y py) c.env x = pure x)
    (hv : l.lookup y = some (.ref a)) (hy : S.names.lookup y = some .local) (hyd : (y == ("__debug__" : Str)) = false) (hm : (a, o) ∈ led) (hi : IsLs o vs) (hz : vs.length ≤ 1000) (hF : ForC c ct elt x scope cl (fun ys led => ∀ D' o, IsLs o ys → R (.ref D') ((D', o) :: led)) vs [] led) : Ev c l led (.ListComp elt [⟨.Name x px, .Name y py, [ct], 0⟩] scope pos) R := fun s Q E hA hQ => by
  obtain ⟨⟨m, F, hl⟩, N, nd⟩ := hA
  refine ListComp_T (L := c.L) F hclos hcell hkind hnames hx ?_ hs
  obtain ⟨u, hu, e⟩ := hl y _ hv
  obtain rfl : u = .ref a := e
  refine nameX_L F hu ?_ c.hk hy hyd
  obtain ⟨us, n, rfl, hvs⟩ := hi
  have hkl := hvs.len
  refine CompSrcT.ledger (its := us.toArray) (k := n) rfl F N hm (by rw [List.size_toArray, hkl]; exact Nat.le_trans hz (Nat.le_of_ble_eq_true rfl)) fun g => ?_
  rw [List.size_toArray]
  refine forC_rest (R := R) (s := { s with heap := g }) (Sx := SrcAt c.g a us.toArray) (Pp := fun i v => us.toArray[i]? = some v) (all := vs) (keep := (a, W.listOf us.toArray n)) (l := l) (fun i u hp hi => ?_) (fun nw h => Or.inr ⟨_, h, rfl, _, rfl⟩) hl hQ us.length 0 [] [] led (by rw [hkl]; rfl) trivial nd hm (by rw [List.drop_zero]; exact hF)
  obtain ⟨v, hv⟩ : ∃ v, vs[i]? = some v := ⟨_, List.getElem?_eq_getElem hi⟩
  obtain ⟨u', hu', hi'⟩ := hvs.at hv
  have hp' : us[i]? = some u := by simpa using hp
  rw [hu'] at hp'
  exact ⟨v, hv, Option.some.inj hp' ▸ hi'⟩
end r34
end Mine
namespace Mine
variable {w : World}
section r35
variable {S : Scope} {D : Nat} {c : Cx w S D} {l : Locs} {led : Led} {P : AV → Led → Prop} {a b : Addr} {o o2 : Obj} {ns ms : List Int}
open PyProof.V PySem.Spec
inductive TupL (led : Led) : List (Int × Int) → List AV → Prop
  | nil : TupL led [] []
  | cons {a o k v r ys} : (a, o) ∈ led → IsTp o [.int k, .int v] → TupL led r ys → TupL led ((k, v) :: r) (.ref a :: ys)
theorem readsInts {h : Heap} : ∀ {ns : List Int} {us : List Value}, VIs (ns.map .int) us → ∃ as, ReadsAll h us (ns.map PyData.int) as
  | [], [], _ => ⟨_, .nil⟩
  | _ :: _, _ :: _, ⟨⟨_, rfl⟩, h⟩ => let ⟨_, r⟩ := readsInts h; ⟨_, .cons (.int _ _) r⟩
theorem readsTp {g h : Heap} {L : Addr} (N : News g L h led) (hm : (a, o) ∈ led) (hi : IsTp o (ns.map .int)) : ∃ as, Reads h (.ref a) (.tuple (ns.map PyData.int)) as := by
  obtain ⟨us, rfl, hv⟩ := hi
  obtain ⟨as, r⟩ := readsInts (h := h) hv
  exact ⟨_, .tuple (N _ hm).1 rfl rfl r⟩
abbrev rowP (p : Int × Int) : PyData := .tuple [.int p.1, .int p.2]
theorem readsRows {g h : Heap} {L : Addr} (N : News g L h led) {Dl : List (Int × Int)} {ys : List AV} (t : TupL led Dl ys) : ∀ {us : List Value}, VIs ys us → ∃ as, ReadsAll h us (Dl.map rowP) as := by
  induction t with
  | nil => intro us hv; match us, hv with | [], _ => exact ⟨_, .nil⟩
  | @cons a o k v r ys hm hi _ ih =>
    intro us hv
    match us, hv with
    | u :: us, ⟨e, hv⟩ =>
      obtain rfl : u = .ref a := e
      obtain ⟨as, r1⟩ := readsTp (ns := [k, v]) N hm hi
      obtain ⟨bs, r2⟩ := ih hv
      exact ⟨_, .cons r1 r2⟩
theorem canInts : ∀ ns : List Int, PyData.canLayAll0 (ns.map PyData.int) = true ∧ PyData.depthAll (ns.map PyData.int) = 0 := fun ns => ⟨ke_canLayAll0 ns, ke_depthAll ns⟩
theorem shapedT (ns : List Int) : SeqAt.shaped (.tuple (ns.map PyData.int)) = true := by simp [SeqAt.shaped, PyData.canLay0, PyData.depth, ke_canLayAll0, ke_depthAll]
theorem rowsLay : ∀ Dl : List (Int × Int), PyData.canLayAll0 (Dl.map rowP) = true ∧ PyData.depthAll (Dl.map rowP) ≤ 1
  | [] => ⟨rfl, Nat.zero_le _⟩
  | p :: r => by
    obtain ⟨h1, h2⟩ := rowsLay r
    refine ⟨?_, ?_⟩
    · simp [PyData.canLayAll0, PyData.canLay0, h1]
    · simp only [List.map_cons, PyData.depthAll, PyData.depth]; omega
theorem shapedR (Dl : List (Int × Int)) : SeqAt.shaped (.list (Dl.map rowP)) = true := by
  obtain ⟨h1, h2⟩ := rowsLay Dl
  unfold SeqAt.shaped
  rw [Bool.and_eq_true]
  exact ⟨by simpa [PyData.canLay0] using h1, decide_eq_true (by simp only [PyData.depth]; omega)⟩
theorem eqvInts : ∀ ns ms : List Int, PyData.eqvAll (ns.map PyData.int) (ms.map PyData.int) = decide (ns = ms) := ked_eqvAll
theorem eqvT (ns ms : List Int) : PyData.eqv (.tuple (ns.map PyData.int)) (.tuple (ms.map PyData.int)) = decide (ns = ms) := by
  simp only [PyData.eqv]; exact eqvInts ns ms
theorem eqvRs : ∀ D1 : List (Int × Int), PyData.eqvAll (D1.map rowP) (D1.map rowP) = true
  | [] => rfl
  | p :: r => by simp [PyData.eqvAll, PyData.eqv, eqvRs r]
theorem Cx.room (c : Cx w S D) (h : 8 ≤ D) : c.A.units + 64 < cLine := by
  have := c.hu
  show c.un + 64 < cLine
  omega
theorem Cmp.eqTp (hD : 8 ≤ D) (h1 : (a, o) ∈ led) (i1 : IsTp o (ns.map .int)) (h2 : (b, o2) ∈ led) (i2 : IsTp o2 (ms.map .int)) (h : P (.bool (decide (ns = ms))) led) : Cmp c l .Eq (.ref a) (.ref b) led P := fun u v hu hv s Q E hA hQ => by
  obtain rfl : u = .ref a := hu
  obtain rfl : v = .ref b := hv
  obtain ⟨_, r1⟩ := readsTp hA.nw h1 i1
  obtain ⟨_, r2⟩ := readsTp hA.nw h2 i2
  exact eq_dataH r1 r2 (shapedT _) (shapedT _) (c.room hD) (by rw [eqvT]; exact hQ _ _ _ s.heap s.toks h rfl hA)
theorem Cmp.eqIL (hD : 8 ≤ D) (h1 : (a, o) ∈ led) (i1 : IsIL o ns) (h2 : (b, o2) ∈ led) (i2 : IsIL o2 ms) (h : P (.bool (decide (ns = ms))) led) : Cmp c l .Eq (.ref a) (.ref b) led P := fun u v hu hv s Q E hA hQ => by
  obtain rfl : u = .ref a := hu
  obtain rfl : v = .ref b := hv
  obtain ⟨xs, _, rfl, j1⟩ := i1
  obtain ⟨ys, _, rfl, j2⟩ := i2
  exact ke_eq_ints (hA.nw.isList h1) (hA.nw.isList h2) j1 j2 (c.room hD) (hQ _ _ _ s.heap s.toks h rfl hA)
theorem Cmp.neIL (hD : 8 ≤ D) (h1 : (a, o) ∈ led) (i1 : IsIL o ns) (h2 : (b, o2) ∈ led) (i2 : IsIL o2 ms) (h : P (.bool (!decide (ns = ms))) led) : Cmp c l .NotEq (.ref a) (.ref b) led P := fun u v hu hv s Q E hA hQ => by
  obtain rfl : u = .ref a := hu
  obtain rfl : v = .ref b := hv
  obtain ⟨xs, _, rfl, j1⟩ := i1
  obtain ⟨ys, _, rfl, j2⟩ := i2
  exact ke_ne_ints (hA.nw.isList h1) (hA.nw.isList h2) j1 j2 (c.room hD) (hQ _ _ _ s.heap s.toks h rfl hA)
theorem readsLs {g h : Heap} {L : Addr} {Dl : List (Int × Int)} {ys : List AV} (N : News g L h led) (hm : (a, o) ∈ led) (hi : IsLs o ys) (t : TupL led Dl ys) : ∃ as, Reads h (.ref a) (.list (Dl.map rowP)) as := by
  obtain ⟨us, _, rfl, hv⟩ := hi
  obtain ⟨as, r⟩ := readsRows N t hv
  exact ⟨_, .list (N _ hm).1 rfl rfl r⟩
theorem Cmp.neRows {D1 : List (Int × Int)} {y1 y2 : List AV} (hD : 8 ≤ D) (h1 : (a, o) ∈ led) (i1 : IsLs o y1) (t1 : TupL led D1 y1) (h2 : (b, o2) ∈ led) (i2 : IsLs o2 y2) (t2 : TupL led D1 y2) (h : P (.bool false) led) : Cmp c l .NotEq (.ref a) (.ref b) led P := fun u v hu hv s Q E hA hQ => by
  obtain rfl : u = .ref a := hu
  obtain rfl : v = .ref b := hv
  obtain ⟨_, r1⟩ := readsLs hA.nw h1 i1 t1
  obtain ⟨_, r2⟩ := readsLs hA.nw h2 i2 t2
  refine ne_dataH r1 r2 (shapedR _) (shapedR _) (c.room hD) ?_
  rw [show PyData.eqv (.list (D1.map rowP)) (.list (D1.map rowP)) = true by simp only [PyData.eqv]; exact eqvRs D1]
  exact hQ _ _ _ s.heap s.toks h rfl hA
theorem Cmp.eqRows {D1 : List (Int × Int)} {y1 y2 : List AV} (hD : 8 ≤ D) (h1 : (a, o) ∈ led) (i1 : IsLs o y1) (t1 : TupL led D1 y1) (h2 : (b, o2) ∈ led) (i2 : IsLs o2 y2) (t2 : TupL led D1 y2) (h : P (.bool true) led) : Cmp c l .Eq (.ref a) (.ref b) led P := fun u v hu hv s Q E hA hQ => by
  obtain rfl : u = .ref a := hu
  obtain rfl : v = .ref b := hv
  obtain ⟨_, r1⟩ := readsLs hA.nw h1 i1 t1
  obtain ⟨_, r2⟩ := readsLs hA.nw h2 i2 t2
  refine eq_dataH r1 r2 (shapedR _) (shapedR _) (c.room hD) ?_
  rw [show PyData.eqv (.list (D1.map rowP)) (.list (D1.map rowP)) = true by simp only [PyData.eqv]; exact eqvRs D1]
  exact hQ _ _ _ s.heap s.toks h rfl hA
end r35
end Mine
namespace Mine
theorem lt_rows {w : World} {A : Around} {s : Shared} {E : Value → Shared → Prop} {Q : Bool → Shared → Prop} {x y : Addr} {a b v u : Int} {t1 t2 t3 t4 : Tok} (hx : s.heap.get? x = some (tupII a v t1 t2)) (hy : s.heap.get? y = some (tupII b u t3 t4)) (hlt : b < a) (h : Q false s) :
    wpAny (model PW w) A (keyLt' (tuples' (Value.type "int" != Value.type "tuple")) (.ref x) (.ref y)) Q E s := by
  refine kat_lt hx rfl hy rfl ?_
  refine kat_cons (wpAny_eqBool_int ?_)
  rw [show (a == b) = false from beq_eq_false_iff_ne.mpr (by omega)]
  refine kat_no ?_
  show wpAny _ _ (oneLt' true (.int a t1) (.int b t3)) _ _ _
  refine oneLt_int ?_
  rw [decide_eq_false (by omega : ¬ a < b)]
  exact h
theorem sort3 {w : World} {A : Around} {s : Shared} {E Q : Value → Shared → Prop} {h₀ : Heap} {L l x1 x2 x3 : Addr} {m : Str → Option Value} {news : Led} {a b d v1 v2 v3 : Int} {t1 u1 t2 u2 t3 u3 : Tok} (hab : a < b) (hbd : b < d) (F : Fr h₀ L s.heap m) (N : News h₀ L s.heap news) (hl : s.heap.IsList l (List.toArray [.ref x1, .ref x2, .ref x3]))
    (h1 : (x1, tupII a v1 t1 u1) ∈ news) (h2 : (x2, tupII b v2 t2 u2) ∈ news) (h3 : (x3, tupII d v3 t3 u3) ∈ news)
    (h : ∀ D c h', Fr h₀ L h' m → News h₀ L h' ((D, W.listOf (List.toArray [.ref x1, .ref x2, .ref x3]) c) :: news) → (∀ q ∈ news, q.1 < D) → Q (.ref D) { s with heap := h' }) : wpAny (model PW w) A (call (.builtin "sorted") [.ref l]) Q E s := by
  refine kat_sorted F N hl (Nat.le_of_ble_eq_true rfl) (Nat.le_of_ble_eq_true rfl) fun D e1 h' F' N' hD => ?_
  have N2 : News h₀ L h' news := fun p hp => N' p (.tail _ hp)
  refine kat_kind (KatTups.cons (N2.get h1) rfl rfl rfl (KatTups.cons (N2.get h2) rfl rfl rfl (KatTups.cons (N2.get h3) rfl rfl rfl KatTups.nil))) (Nat.le_of_ble_eq_true rfl) (T := .type "int") (by kas_types) rfl ?_
  walk1
  refine lt_rows (N2.get h2) (N2.get h1) hab ?_
  walk1
  walk1
  refine lt_rows (N2.get h3) (N2.get h2) hbd ?_
  walk1
  walk1
  dsimp only
  refine KasFin.intro F' N' (.head fun p hp => Nat.ne_of_lt (hD p hp)) fun h2 c2 F2 N2 => ?_
  exact h D c2 h2 F2 N2 hD
theorem sort2 {w : World} {A : Around} {s : Shared} {E Q : Value → Shared → Prop} {h₀ : Heap} {L l x1 x2 : Addr} {m : Str → Option Value} {news : Led} {a b v1 v2 : Int} {t1 u1 t2 u2 : Tok} (hab : a < b) (F : Fr h₀ L s.heap m) (N : News h₀ L s.heap news) (hl : s.heap.IsList l (List.toArray [.ref x1, .ref x2]))
    (h1 : (x1, tupII a v1 t1 u1) ∈ news) (h2 : (x2, tupII b v2 t2 u2) ∈ news)
    (h : ∀ D c h', Fr h₀ L h' m → News h₀ L h' ((D, W.listOf (List.toArray [.ref x1, .ref x2]) c) :: news) → (∀ q ∈ news, q.1 < D) → Q (.ref D) { s with heap := h' }) : wpAny (model PW w) A (call (.builtin "sorted") [.ref l]) Q E s := by
  refine kat_sorted F N hl (Nat.le_of_ble_eq_true rfl) (Nat.le_of_ble_eq_true rfl) fun D e1 h' F' N' hD => ?_
  have N2 : News h₀ L h' news := fun p hp => N' p (.tail _ hp)
  refine kat_kind (KatTups.cons (N2.get h1) rfl rfl rfl (KatTups.cons (N2.get h2) rfl rfl rfl KatTups.nil)) (Nat.le_of_ble_eq_true rfl) (T := .type "int") (by kas_types) rfl ?_
  walk1
  refine lt_rows (N2.get h2) (N2.get h1) hab ?_
  walk1
  walk1
  dsimp only
  refine KasFin.intro F' N' (.head fun p hp => Nat.ne_of_lt (hD p hp)) fun h2 c2 F2 N2 => ?_
  exact h D c2 h2 F2 N2 hD
theorem pairTp {o : Obj} {k v : Int} (h : IsTp o [.int k, .int v]) : ∃ t u, o = tupII k v t u := by
  obtain ⟨us, rfl, h⟩ := h
  obtain ⟨_, _, rfl, ⟨t, rfl⟩, ⟨u, rfl⟩⟩ := VIs.two h
  exact ⟨t, u, rfl⟩
theorem two_of {us : List Value} {x1 x2 : Addr} (h : VIs [.ref x1, .ref x2] us) : us = [.ref x1, .ref x2] := by
  obtain ⟨_, _, rfl, e1, e2⟩ := VIs.two h
  rw [show _ = Value.ref x1 from e1, show _ = Value.ref x2 from e2]
theorem three_of {us : List Value} {x1 x2 x3 : Addr} (h : VIs [.ref x1, .ref x2, .ref x3] us) : us = [.ref x1, .ref x2, .ref x3] := by
  obtain ⟨_, _, _, rfl, e1, e2, e3⟩ := VIs.three h
  rw [show _ = Value.ref x1 from e1, show _ = Value.ref x2 from e2, show _ = Value.ref x3 from e3]
section r36
variable {w : World} {S : Scope} {D : Nat} {c : Cx w S D} {l : Locs} {led : Led} {P : AV → Led → Prop} {a x1 x2 x3 : Addr} {o o1 o2 o3 : Obj} {k1 k2 k3 v1 v2 v3 : Int}
theorem CallV.sorted0 (ho : (a, o) ∈ led) (hi : IsLs o []) (h : ∀ D' o', IsLs o' [] → P (.ref D') ((D', o') :: led)) : CallV c l (.builtin "sorted") [.ref a] led P := fun us hv s Q E hA hQ => by
  match us, hv with
  | [u], ⟨i, _⟩ =>
    obtain rfl : u = .ref a := i
    obtain ⟨us, n, rfl, hs⟩ := hi
    obtain ⟨⟨m, F, hl⟩, N, nd⟩ := hA
    match us, hs with
    | [], _ =>
    refine kso_sorted F N (N.isList ho) .nil (by decide) fun D' vs' ns' c' h' F' N' hD hi' hlen _ _ _ => ?_
    have e : ns' = [] := List.eq_nil_of_length_eq_zero hlen
    subst e
    cases hi'
    exact hQ _ _ _ h' s.toks (h D' _ ⟨[], c', rfl, trivial⟩) rfl (At.cons F' hl N' hD nd)
theorem CallV.sorted2 (ho : (a, o) ∈ led) (hi : IsLs o [.ref x1, .ref x2]) (h1 : (x1, o1) ∈ led) (i1 : IsTp o1 [.int k1, .int v1]) (h2 : (x2, o2) ∈ led) (i2 : IsTp o2 [.int k2, .int v2]) (hab : k1 < k2) (h : ∀ D' o', IsLs o' [.ref x1, .ref x2] → P (.ref D') ((D', o') :: led)) : CallV c l (.builtin "sorted") [.ref a] led P := fun us hv s Q E hA hQ => by
  match us, hv with
  | [u], ⟨i, _⟩ =>
    obtain rfl : u = .ref a := i
    obtain ⟨us, n, rfl, hs⟩ := hi
    obtain ⟨⟨m, F, hl⟩, N, nd⟩ := hA
    have hs' := hs
    obtain rfl := two_of hs
    obtain ⟨t1, u1, rfl⟩ := pairTp i1
    obtain ⟨t2, u2, rfl⟩ := pairTp i2
    exact sort2 hab F N (N.isList ho) h1 h2 fun D' c' h' F' N' hD => hQ _ _ _ h' s.toks (h D' _ ⟨_, c', rfl, hs'⟩) rfl (At.cons F' hl N' hD nd)
theorem CallV.sorted3 (ho : (a, o) ∈ led) (hi : IsLs o [.ref x1, .ref x2, .ref x3]) (h1 : (x1, o1) ∈ led) (i1 : IsTp o1 [.int k1, .int v1]) (h2 : (x2, o2) ∈ led) (i2 : IsTp o2 [.int k2, .int v2]) (h3 : (x3, o3) ∈ led) (i3 : IsTp o3 [.int k3, .int v3]) (hab : k1 < k2) (hbd : k2 < k3) (h : ∀ D' o', IsLs o' [.ref x1, .ref x2, .ref x3] → P (.ref D') ((D', o') :: led)) : CallV c l (.builtin "sorted") [.ref a] led P := fun us hv s Q E hA hQ => by
  match us, hv with
  | [u], ⟨i, _⟩ =>
    obtain rfl : u = .ref a := i
    obtain ⟨us, n, rfl, hs⟩ := hi
    obtain ⟨⟨m, F, hl⟩, N, nd⟩ := hA
    have hs' := hs
    obtain rfl := three_of hs
    obtain ⟨t1, u1, rfl⟩ := pairTp i1
    obtain ⟨t2, u2, rfl⟩ := pairTp i2
    obtain ⟨t3, u3, rfl⟩ := pairTp i3
    exact sort3 hab hbd F N (N.isList ho) h1 h2 h3 fun D' c' h' F' N' hD => hQ _ _ _ h' s.toks (h D' _ ⟨_, c', rfl, hs'⟩) rfl (At.cons F' hl N' hD nd)
end r36
end Mine
namespace Mine
variable {w : World} {S : Scope}
section entry
variable {f : Addr} {sub : Led} {name qual : Str} {params : Arguments} {body : List Stmt} {dV kV doc pm cdv ct oc : Value} {an od : Option Addr} {osl : Array (Option Value)}
theorem CallsN.of_bodyC {P : AV → Led → Prop} (D : Nat) {d : Nat} {x : Str} {v : Value} (ho : (K w.params).lookup f = some ⟨oc, od, .func (fnOf name qual params body S dV kV doc pm an cdv ct), osl⟩) (hcd : codeIn (K w.params) cdv qual = true)
    (hb : ∀ s : Shared, (K w.params).In s.heap → BindsTo s (fnOf name qual params body S dV kV doc pm an cdv ct) ⟨[v], []⟩ [(x, v)]) (hx : S.names.lookup x = some .cell) (hnd : ((cellsFrom 0 S.names []).map (·.1)).Nodup) (hcells : ∀ n, cellsFrom n S.names [] = [(x, n)])
    (hco : S.isCoroutine = false) (hgen : S.isGenerator = false) (hk : S.kind = .function) (hD : D + 1 ≤ d)
    (h : ∀ (c : Cx w S D) cx co, c.cl = [(x, cx)] → co.data = .cell (some v) → Run c [] ((cx, co) :: sub) body (FinN sub P)) : CallsN w f [.val v] sub d P := by
  intro nd us hv p loose mean mg mb dp un gd cn cs a ccd cl outer A₀ base h₀ L m s R B F X N T hkc hd hu hret
  match us, hv with
  | [_], ⟨rfl, _⟩ =>
  refine code_defSC (binds := [(x, v)]) B F X N T rfl rfl hkc ho hcd (Nat.lt_of_le_of_lt (Nat.le_add_right _ _) hd) (hb s (X.keeps F.keep)) (by simp [hx]) hnd (fun g L' h₁ tk cells FG F' N' Y B' X' T' hlt GX => ?_) hco hgen hk
  rw [hcells] at Y
  obtain ⟨co, rfl, hcd'⟩ := Y.one
  have hki : (envOfC qual S L' f cdv).kindOf x = some .cell := hx
  have hcv : co.data = .cell (some v) := by rw [hcd']; simp [bindC, hki]
  have he : envOfC qual S L' f cdv = envX qual S L' f cdv [(x, L' + 1)] := by unfold envOfC; rw [hcells]
  rw [he]
  refine h ⟨p, loose, mean, mg, mb, dp + 1, un + 3, gd, qual, f, cdv, [(x, L' + 1)], envX cn cs L a ccd cl :: outer, _, base, g, L', B', X', T', hk, by omega, by omega⟩ (L' + 1) co rfl hcv { s with heap := h₁, toks := tk } _ _ PassesOwn.leaving ⟨⟨_, F', fun _ _ e => by cases e⟩, N', ?_⟩ (fun o l' led' fl h' tk' hP hfl hA => ?_)
  · show (((L' + 1) :: sub.map (·.1) : List Addr)).Nodup
    rw [List.nodup_cons]
    exact ⟨fun hm => by obtain ⟨q, hq, e⟩ := List.mem_map.mp hm; exact absurd (hlt q hq) (by have e' : q.1 = L' + 1 := e; rw [e']; exact fun z => Nat.lt_irrefl L' (Nat.lt_of_succ_lt z)), nd⟩
  · obtain ⟨av, nw, ha, hP, ht⟩ := hP
    obtain ⟨m'', F'', _⟩ := hA.fr
    refine leaveK_ F'' hA.nw fun F3 N3 => hret av _ nw h' tk' (flow_val hfl ha) hP F3 (fun q hq => N3 q (ht.mem q (List.mem_append_left _ hq))) ?_ ?_ ?_
    · have := ht.nd hA.nd
      rw [List.map_append] at this
      exact (List.nodup_append.mp this).1
    · intro q hq
      cases e : s.heap.get? q.1 with
      | none => rfl
      | some o =>
        have hn := ht.apart hA.nd q hq
        have := GX q.1 o e fun p hp => Ne.symm (hn p hp)
        rw [(hA.nw q (ht.mem q (List.mem_append_left _ hq))).2.2] at this
        cases this
    · intro b o e
      by_cases hb : ∃ q ∈ sub, q.1 = b
      · obtain ⟨q, hq, rfl⟩ := hb
        have := (N q hq).1
        rw [e] at this
        rw [(hA.nw q (ht.mem q (List.mem_append_right _ hq))).1, Option.some.inj this]
      · exact F''.keep _ _ (GX b o e fun p hp he => hb ⟨p, hp, he⟩)
end entry
section r37
variable {D : Nat} {c : Cx w S D} {l : Locs} {led : Led} {x : Str} {scope : Scope} {cl : List (Str × Addr)} {Fin : List AV → Led → Prop} {e1 e2 : PySem.Expr} {k0 k2 : Nat} {p0 p1 p2 p3 : Pos} {Dl : List (Int × Int)} {base : Led}
noncomputable def RowsFin (Fin : List AV → Led → Prop) : List (Int × Int) → List AV → Led → Prop
  | [], ys, led => Fin ys led
  | q :: r, ys, led => (q.2 = 0 → RowsFin Fin r ys led) ∧ (q.2 ≠ 0 → ∀ D' o, IsTp o [.int q.1, .int q.2] → RowsFin Fin r (ys ++ [.ref D']) ((D', o) :: led))
theorem ForC.rows (h1 : ∀ led kk v C oC, (∀ q ∈ base, q ∈ led) → NsC oC x (.int kk) → hlook kk Dl = some v → EvH c (compEnvC scope cl C c.env) ((C, oC) :: led) e1 fun z => z = .int v)
    (h2 : ∀ led kk v C oC, (∀ q ∈ base, q ∈ led) → NsC oC x (.int kk) → hlook kk Dl = some v → EvH c (compEnvC scope cl C c.env) ((C, oC) :: led) e2 fun z => z = .int v)
    (hk : ∀ C, (compEnvC scope cl C c.env).scope.kind = .function) (hx : ∀ C, (compEnvC scope cl C c.env).kindOf x = some .local) (hd : (x == ("__debug__" : Str)) = false)
    (hs1 : ∀ C, starEach [.Name x p2, e2] (compEnvC scope cl C c.env) = (false, eval (.Name x p2) (compEnvC scope cl C c.env)) :: starEach [e2] (compEnvC scope cl C c.env)) (hs2 : ∀ C, starEach [e2] (compEnvC scope cl C c.env) = (false, eval e2 (compEnvC scope cl C c.env)) :: starEach [] (compEnvC scope cl C c.env)) :
    ∀ (rest : List (Int × Int)) (ys : List AV) (led : Led), (∀ q ∈ rest, hlook q.1 Dl = some q.2) → (∀ q ∈ base, q ∈ led) → RowsFin Fin rest ys led →
      ForC c (.Compare e1 [.NotEq] [.Constant (.int 0) k0 p0] p1) (.Tuple [.Name x p2, e2] k2 p3) x scope cl Fin (rest.map fun q => .int q.1) ys led
  | [], ys, led, _, _, h => h
  | q :: r, ys, led, hq, hb, h => by
    refine ⟨q.2 != 0, fun C oC hn => TrH.ne (h1 led q.1 q.2 C oC hb hn (hq q (.head _))) (EvH.int rfl) rfl, fun e => ?_, fun e => .inr ⟨_, _, _, _, .int q.1, .int q.2, rfl, fun C oC hn => EvH.loc (.head _) hn (hk C) (hx C) hd rfl, fun C oC hn => h2 led q.1 q.2 C oC hb hn (hq q (.head _)), hs1, hs2, fun D' o ho => ?_⟩⟩
    · exact ForC.rows h1 h2 hk hx hd hs1 hs2 r ys led (fun q' h' => hq q' (.tail _ h')) hb (h.1 (by simpa using e))
    · exact ForC.rows h1 h2 hk hx hd hs1 hs2 r _ _ (fun q' h' => hq q' (.tail _ h')) (fun q' h' => .tail _ (hb q' h')) (h.2 (by simpa using e) D' o ho)
noncomputable def KeptFin (Fin : List AV → Led → Prop) (led : Led) : List (Int × Int) → List AV → List AV → Prop
  | [], _, acc => Fin acc led
  | q :: r, ys, acc => match ys with
    | y :: ys => (q.2 = 0 → KeptFin Fin led r ys acc) ∧ (q.2 ≠ 0 → KeptFin Fin led r ys (acc ++ [y]))
    | [] => False
theorem ForC.kept (hk : ∀ C, (compEnvC scope cl C c.env).scope.kind = .function) (hx : ∀ C, (compEnvC scope cl C c.env).kindOf x = some .local) (hd : (x == ("__debug__" : Str)) = false)
    (hs : ∀ a t, subscripted (.Constant (.int 1) k2 p2) false (.ref a) (.int 1 t) = operate [.ref a, .int 1 t] (getItem (.ref a) (.int 1 t))) :
    ∀ (Dl : List (Int × Int)) (ys acc : List AV), TupL led Dl ys → KeptFin Fin led Dl ys acc → ForC c (.Compare (.Subscript (.Name x px) (.Constant (.int 1) k2 p2) p3) [.NotEq] [.Constant (.int 0) k0 p0] p1) (.Name x py) x scope cl Fin ys acc led
  | _, _, acc, .nil, h => h
  | _, _, acc, .cons (a := a) (o := o) (k := k) (v := v) (r := r) (ys := ys) hm hi t, h => by
    refine ⟨v != 0, fun C oC hn => TrH.ne (EvH.subT (kk := 1) (j := 1) (EvH.loc (.head _) hn (hk C) (hx C) hd rfl) (EvH.int rfl) (.tail _ hm) hi (by decide) (by decide) rfl rfl (hs a) rfl) (EvH.int rfl) rfl, fun e => ?_, fun e => .inl ⟨.ref a, fun C oC hn => EvH.loc (.head _) hn (hk C) (hx C) hd rfl, ?_⟩⟩
    · exact ForC.kept hk hx hd hs r ys acc t (h.1 (by simpa using e))
    · exact ForC.kept hk hx hd hs r ys _ t (h.2 (by simpa using e))
end r37
end Mine
theorem Mine.rowsM38_1 : True := by
  (k_with "amcall" => ((with_reducible refine' Mine.CallV.sorted3 ?zho ?zhi ?zh1 ?zi1 ?zh2 ?zi2 ?zh3 ?zi3 ?zq1 ?zq2 ?_); k_extra "c5"; k_extra "c13"; (case zh3 => k_mem); (case zi3 => assumption); (case zq1 => omega); (case zq2 => omega); intro l' o' ho'))
  (k_with "amcall" => ((with_reducible refine' Mine.CallV.sorted2 ?zho ?zhi ?zh1 ?zi1 ?zh2 ?zi2 ?zq1 ?_); k_extra "c5"; k_extra "c13"; (case zq1 => omega); intro l' o' ho'))
  (k_with "amcall" => ((with_reducible refine' Mine.CallV.sorted0 ?zho ?zhi ?_); k_extra "c5"; intro l' o' ho'))
  (k_with "amEv" => ((with_reducible refine' Mine.Ev.callB (f := Str.ofString "sorted") (id := "sorted") ?zn ?zhv ?zhn ?zhx ?zhd ?_ ?zhs ?zha ?zhc); k_extra "c1"))
  trivial
namespace Mine
variable {w : World}
theorem a_written3 (mx md hd : Addr) (mo ho : Obj) (a v : Int) (hv : v ≠ 0) (hmo : IsDict w mo (meE hd)) (hho : IsHd w ho [(a, 7), (a + 1, v), (a + 2, 11)]) (hlo : (hd == sysModules) = false) {P : AV → Led → Prop} (h : ∀ lx x1 x2 x3 lo o1 o2 o3, IsLs lo [.ref x1, .ref x2, .ref x3] → IsTp o1 [.int a, .int 7] → IsTp o2 [.int (a + 1), .int v] → IsTp o3 [.int (a + 2), .int 11] → P (.ref lx) [(lx, lo), (x1, o1), (x2, o2), (x3, o3)]) : CallsN w 503 [.ref mx] [(mx, instObj 534 md), (md, mo), (hd, ho)] 1 P := by
  refine' CallsN.of_bodyC (x := Str.ofString "self") 0 ?zho ?zhcd ?zhb ?zhx ?zhnd ?zhcells ?zhco ?zhge ?zhki ?zhD ?_
  (case zho => k_is)
  (case zhcd => k_is)
  (case zhb => exact fun _ _ => BindsTo.of_eq rfl)
  (case zhx => kernel_rfl)
  (case zhnd => decide +kernel)
  (case zhcells => exact fun _ => rfl)
  (case zhco => kernel_rfl)
  (case zhge => kernel_rfl)
  (case zhki => kernel_rfl)
  (case zhD => decide)
  intro c cx co hcl hco'
  k_extra "am"
  k_extra "am"
  k_extra "am"
  refine' Ev.compD (cl := [(Str.ofString "self", cx)]) (Dl := [(a, 7), (a + 1, v), (a + 2, 11)]) (d := hd) (od := ho) ?zqa ?zqb ?zqc ?zqd ?zqe ?zqf ?zqg ?zqh ?zqi ?zqj ?zqk ?_
  (case zqa => (show closureFor _ (envX _ _ _ _ _ _) = _); rw [hcl]; with_unfolding_all rfl)
  (case zqb => decide +kernel)
  (case zqc => kernel_rfl)
  (case zqd => decide +kernel)
  (case zqe => kernel_rfl)
  (case zqf => intro _; kernel_rfl)
  (case zqg => refine' EvH.attr (EvH.nameC (a := cx) (o := co) (v := .ref mx) ?zr1 ?zr2 hco' ?zr3 ?zr4 rfl) ?zm1 ?zm2 hmo ?zhv ?zk1 ?zk2 ?zk3 ?zk4 ?zk5 ?zk6 ?zk7; (case zr1 => rw [hcl]; rfl); (case zr2 => k_mem); (case zr3 => kernel_rfl); (case zr4 => kernel_rfl); (case zm1 => k_mem); (case zm2 => k_mem); (case zhv => k_extra "lk"); (case zk1 => k_is); (case zk2 => k_is); (case zk3 => k_is); (case zk4 => k_is); (case zk5 => exact rfl); (case zk6 => kernel_rfl); (case zk7 => exact rfl))
  (case zqh => k_mem)
  (case zqi => exact hlo)
  (case zqj => exact hho)
  (case zqk => exact Nat.le_of_ble_eq_true rfl)
  have key : ∀ {scope : Scope} {p1 p2 p3 p4 : Pos} (led : Led) (kk vv : Int) (C : Addr) (oC : Obj), (compEnvC scope [(Str.ofString "self", cx)] C c.env).scope.kind = .function → (compEnvC scope [(Str.ofString "self", cx)] C c.env).kindOf (Str.ofString "self") = some .cell → (compEnvC scope [(Str.ofString "self", cx)] C c.env).kindOf (Str.ofString "place") = some .local → (∀ q ∈ ([(cx, co), (mx, instObj 534 md), (md, mo), (hd, ho)] : Led), q ∈ led) → NsC oC (Str.ofString "place") (.int kk) → hlook kk [(a, 7), (a + 1, v), (a + 2, 11)] = some vv →
      EvH c (compEnvC scope [(Str.ofString "self", cx)] C c.env) ((C, oC) :: led) (.Subscript (.Attribute (.Name (Str.ofString "self") p1) (Str.ofString "held") p2) (.Name (Str.ofString "place") p3) p4) fun z => z = .int vv := by
    intro scope p1 p2 p3 p4 led kk vv C oC g1 g2 g3 hb hn hl
    refine' EvH.subD (d := hd) (o := ho) (Dl := [(a, 7), (a + 1, v), (a + 2, 11)]) (kk := kk) (EvH.attr (EvH.cell (a := cx) (o := co) (v := .ref mx) rfl (.tail _ (hb _ (.head _))) hco' g1 g2 ?zr4 rfl) (.tail _ (hb _ (.tail _ (.head _)))) (.tail _ (hb _ (.tail _ (.tail _ (.head _))))) hmo ?zhv ?zk1 ?zk2 ?zk3 ?zk4 ?zk5 ?zk6 ?zk7) (EvH.loc (.head _) hn g1 g3 ?zr5 rfl) hlo (.tail _ (hb _ (.tail _ (.tail _ (.tail _ (.head _)))))) hho hl ?zk8 rfl
    (case zr4 => kernel_rfl)
    (case zr5 => kernel_rfl)
    (case zhv => k_extra "lk")
    (case zk1 => k_is)
    (case zk2 => k_is)
    (case zk3 => k_is)
    (case zk4 => k_is)
    (case zk5 => exact rfl)
    (case zk6 => kernel_rfl)
    (case zk7 => exact rfl)
    (case zk8 => intro _; kernel_rfl)
  refine' ForC.rows (base := [(cx, co), (mx, instObj 534 md), (md, mo), (hd, ho)]) (Dl := [(a, 7), (a + 1, v), (a + 2, 11)]) ?zw1 ?zw2 ?zw3 ?zw4 ?zw5 ?zw6 ?zw7 [(a, 7), (a + 1, v), (a + 2, 11)] [] _ ?zw8 ?zw9 ?_
  (case zw1 => intro led kk vv C oC; refine' key led kk vv C oC ?zx1 ?zx2 ?zx3; (case zx1 => exact rfl); (case zx2 => kernel_rfl); (case zx3 => kernel_rfl))
  (case zw2 => intro led kk vv C oC; refine' key led kk vv C oC ?zx1 ?zx2 ?zx3; (case zx1 => exact rfl); (case zx2 => kernel_rfl); (case zx3 => kernel_rfl))
  (case zw3 => intro _; exact rfl)
  (case zw4 => intro _; kernel_rfl)
  (case zw5 => kernel_rfl)
  (case zw6 => intro _; kernel_rfl)
  (case zw7 => intro _; kernel_rfl)
  (case zw9 => exact fun q hq => hq)
  (case zw8 =>
    intro q hq
    simp only [List.mem_cons, List.not_mem_nil, or_false] at hq
    rcases hq with rfl | rfl | rfl
    · exact hl0
    · exact hl1 ne01 hl0
    · exact hl1 ne02 (hl1 ne12 hl0))
  refine ⟨fun e => absurd e (show ¬ (7 : Int) = 0 by decide), fun _ x1 o1 i1 => ⟨fun e => absurd e hv, fun _ x2 o2 i2 => ⟨fun e => absurd e (show ¬ (11 : Int) = 0 by decide), fun _ x3 o3 i3 => ?_⟩⟩⟩
  intro lx' lo' il
  change IsLs lo' [.ref x1, .ref x2, .ref x3] at il
  repeat' (first | k_extra "am" | fail "end")
  all_goals exact FinN.ret (h _ _ _ _ _ _ _ _ (by assumption) i1 i2 i3) (by k_extra "take")
end Mine
namespace Mine
variable {w : World}
theorem a_written2 (mx md hd : Addr) (mo ho : Obj) (a : Int) (hmo : IsDict w mo (meE hd)) (hho : IsHd w ho [(a, 7), (a + 1, 0), (a + 2, 11)]) (hlo : (hd == sysModules) = false) {P : AV → Led → Prop} (h : ∀ lx x1 x3 lo o1 o3, IsLs lo [.ref x1, .ref x3] → IsTp o1 [.int a, .int 7] → IsTp o3 [.int (a + 2), .int 11] → P (.ref lx) [(lx, lo), (x1, o1), (x3, o3)]) : CallsN w 503 [.ref mx] [(mx, instObj 534 md), (md, mo), (hd, ho)] 1 P := by
  refine' CallsN.of_bodyC (x := Str.ofString "self") 0 ?zho ?zhcd ?zhb ?zhx ?zhnd ?zhcells ?zhco ?zhge ?zhki ?zhD ?_
  (case zho => k_is)
  (case zhcd => k_is)
  (case zhb => exact fun _ _ => BindsTo.of_eq rfl)
  (case zhx => kernel_rfl)
  (case zhnd => decide +kernel)
  (case zhcells => exact fun _ => rfl)
  (case zhco => kernel_rfl)
  (case zhge => kernel_rfl)
  (case zhki => kernel_rfl)
  (case zhD => decide)
  intro c cx co hcl hco'
  k_extra "am"
  k_extra "am"
  k_extra "am"
  refine' Ev.compD (cl := [(Str.ofString "self", cx)]) (Dl := [(a, 7), (a + 1, 0), (a + 2, 11)]) (d := hd) (od := ho) ?zqa ?zqb ?zqc ?zqd ?zqe ?zqf ?zqg ?zqh ?zqi ?zqj ?zqk ?_
  (case zqa => (show closureFor _ (envX _ _ _ _ _ _) = _); rw [hcl]; with_unfolding_all rfl)
  (case zqb => decide +kernel)
  (case zqc => kernel_rfl)
  (case zqd => decide +kernel)
  (case zqe => kernel_rfl)
  (case zqf => intro _; kernel_rfl)
  (case zqg => refine' EvH.attr (EvH.nameC (a := cx) (o := co) (v := .ref mx) ?zr1 ?zr2 hco' ?zr3 ?zr4 rfl) ?zm1 ?zm2 hmo ?zhv ?zk1 ?zk2 ?zk3 ?zk4 ?zk5 ?zk6 ?zk7; (case zr1 => rw [hcl]; rfl); (case zr2 => k_mem); (case zr3 => kernel_rfl); (case zr4 => kernel_rfl); (case zm1 => k_mem); (case zm2 => k_mem); (case zhv => k_extra "lk"); (case zk1 => k_is); (case zk2 => k_is); (case zk3 => k_is); (case zk4 => k_is); (case zk5 => exact rfl); (case zk6 => kernel_rfl); (case zk7 => exact rfl))
  (case zqh => k_mem)
  (case zqi => exact hlo)
  (case zqj => exact hho)
  (case zqk => exact Nat.le_of_ble_eq_true rfl)
  have key : ∀ {scope : Scope} {p1 p2 p3 p4 : Pos} (led : Led) (kk vv : Int) (C : Addr) (oC : Obj), (compEnvC scope [(Str.ofString "self", cx)] C c.env).scope.kind = .function → (compEnvC scope [(Str.ofString "self", cx)] C c.env).kindOf (Str.ofString "self") = some .cell → (compEnvC scope [(Str.ofString "self", cx)] C c.env).kindOf (Str.ofString "place") = some .local → (∀ q ∈ ([(cx, co), (mx, instObj 534 md), (md, mo), (hd, ho)] : Led), q ∈ led) → NsC oC (Str.ofString "place") (.int kk) → hlook kk [(a, 7), (a + 1, 0), (a + 2, 11)] = some vv →
      EvH c (compEnvC scope [(Str.ofString "self", cx)] C c.env) ((C, oC) :: led) (.Subscript (.Attribute (.Name (Str.ofString "self") p1) (Str.ofString "held") p2) (.Name (Str.ofString "place") p3) p4) fun z => z = .int vv := by
    intro scope p1 p2 p3 p4 led kk vv C oC g1 g2 g3 hb hn hl
    refine' EvH.subD (d := hd) (o := ho) (Dl := [(a, 7), (a + 1, 0), (a + 2, 11)]) (kk := kk) (EvH.attr (EvH.cell (a := cx) (o := co) (v := .ref mx) rfl (.tail _ (hb _ (.head _))) hco' g1 g2 ?zr4 rfl) (.tail _ (hb _ (.tail _ (.head _)))) (.tail _ (hb _ (.tail _ (.tail _ (.head _))))) hmo ?zhv ?zk1 ?zk2 ?zk3 ?zk4 ?zk5 ?zk6 ?zk7) (EvH.loc (.head _) hn g1 g3 ?zr5 rfl) hlo (.tail _ (hb _ (.tail _ (.tail _ (.tail _ (.head _)))))) hho hl ?zk8 rfl
    (case zr4 => kernel_rfl)
    (case zr5 => kernel_rfl)
    (case zhv => k_extra "lk")
    (case zk1 => k_is)
    (case zk2 => k_is)
    (case zk3 => k_is)
    (case zk4 => k_is)
    (case zk5 => exact rfl)
    (case zk6 => kernel_rfl)
    (case zk7 => exact rfl)
    (case zk8 => intro _; kernel_rfl)
  refine' ForC.rows (base := [(cx, co), (mx, instObj 534 md), (md, mo), (hd, ho)]) (Dl := [(a, 7), (a + 1, 0), (a + 2, 11)]) ?zw1 ?zw2 ?zw3 ?zw4 ?zw5 ?zw6 ?zw7 [(a, 7), (a + 1, 0), (a + 2, 11)] [] _ ?zw8 ?zw9 ?_
  (case zw1 => intro led kk vv C oC; refine' key led kk vv C oC ?zx1 ?zx2 ?zx3; (case zx1 => exact rfl); (case zx2 => kernel_rfl); (case zx3 => kernel_rfl))
  (case zw2 => intro led kk vv C oC; refine' key led kk vv C oC ?zx1 ?zx2 ?zx3; (case zx1 => exact rfl); (case zx2 => kernel_rfl); (case zx3 => kernel_rfl))
  (case zw3 => intro _; exact rfl)
  (case zw4 => intro _; kernel_rfl)
  (case zw5 => kernel_rfl)
  (case zw6 => intro _; kernel_rfl)
  (case zw7 => intro _; kernel_rfl)
  (case zw9 => exact fun q hq => hq)
  (case zw8 =>
    intro q hq
    simp only [List.mem_cons, List.not_mem_nil, or_false] at hq
    rcases hq with rfl | rfl | rfl
    · exact hl0
    · exact hl1 ne01 hl0
    · exact hl1 ne02 (hl1 ne12 hl0))
  refine ⟨fun e => absurd e (show ¬ (7 : Int) = 0 by decide), fun _ x1 o1 i1 => ⟨fun _ => ⟨fun e => absurd e (show ¬ (11 : Int) = 0 by decide), fun _ x3 o3 i3 => ?_⟩, fun e => absurd rfl e⟩⟩
  intro lx' lo' il
  change IsLs lo' [.ref x1, .ref x3] at il
  repeat' (first | k_extra "am" | fail "end")
  all_goals exact FinN.ret (h _ _ _ _ _ _ (by assumption) i1 i3) (by k_extra "take")
end Mine
namespace Mine
variable {w : World}
theorem a_written0 (mx md hd : Addr) (mo ho : Obj) (hmo : IsDict w mo (meE hd)) (hho : IsHd w ho []) (hlo : (hd == sysModules) = false) {P : AV → Led → Prop} (h : ∀ lx lo, IsLs lo [] → P (.ref lx) [(lx, lo)]) : CallsN w 503 [.ref mx] [(mx, instObj 534 md), (md, mo), (hd, ho)] 1 P := by
  refine' CallsN.of_bodyC (x := Str.ofString "self") 0 ?zho ?zhcd ?zhb ?zhx ?zhnd ?zhcells ?zhco ?zhge ?zhki ?zhD ?_
  (case zho => k_is)
  (case zhcd => k_is)
  (case zhb => exact fun _ _ => BindsTo.of_eq rfl)
  (case zhx => kernel_rfl)
  (case zhnd => decide +kernel)
  (case zhcells => exact fun _ => rfl)
  (case zhco => kernel_rfl)
  (case zhge => kernel_rfl)
  (case zhki => kernel_rfl)
  (case zhD => decide)
  intro c cx co hcl hco'
  k_extra "am"
  k_extra "am"
  k_extra "am"
  refine' Ev.compD (cl := [(Str.ofString "self", cx)]) (Dl := []) (d := hd) (od := ho) ?zqa ?zqb ?zqc ?zqd ?zqe ?zqf ?zqg ?zqh ?zqi ?zqj ?zqk ?_
  (case zqa => (show closureFor _ (envX _ _ _ _ _ _) = _); rw [hcl]; with_unfolding_all rfl)
  (case zqb => decide +kernel)
  (case zqc => kernel_rfl)
  (case zqd => decide +kernel)
  (case zqe => kernel_rfl)
  (case zqf => intro _; kernel_rfl)
  (case zqg => refine' EvH.attr (EvH.nameC (a := cx) (o := co) (v := .ref mx) ?zr1 ?zr2 hco' ?zr3 ?zr4 rfl) ?zm1 ?zm2 hmo ?zhv ?zk1 ?zk2 ?zk3 ?zk4 ?zk5 ?zk6 ?zk7; (case zr1 => rw [hcl]; rfl); (case zr2 => k_mem); (case zr3 => kernel_rfl); (case zr4 => kernel_rfl); (case zm1 => k_mem); (case zm2 => k_mem); (case zhv => k_extra "lk"); (case zk1 => k_is); (case zk2 => k_is); (case zk3 => k_is); (case zk4 => k_is); (case zk5 => exact rfl); (case zk6 => kernel_rfl); (case zk7 => exact rfl))
  (case zqh => k_mem)
  (case zqi => exact hlo)
  (case zqj => exact hho)
  (case zqk => exact Nat.le_of_ble_eq_true rfl)
  have key : ∀ {scope : Scope} {p1 p2 p3 p4 : Pos} (led : Led) (kk vv : Int) (C : Addr) (oC : Obj), (compEnvC scope [(Str.ofString "self", cx)] C c.env).scope.kind = .function → (compEnvC scope [(Str.ofString "self", cx)] C c.env).kindOf (Str.ofString "self") = some .cell → (compEnvC scope [(Str.ofString "self", cx)] C c.env).kindOf (Str.ofString "place") = some .local → (∀ q ∈ ([(cx, co), (mx, instObj 534 md), (md, mo), (hd, ho)] : Led), q ∈ led) → NsC oC (Str.ofString "place") (.int kk) → hlook kk [] = some vv →
      EvH c (compEnvC scope [(Str.ofString "self", cx)] C c.env) ((C, oC) :: led) (.Subscript (.Attribute (.Name (Str.ofString "self") p1) (Str.ofString "held") p2) (.Name (Str.ofString "place") p3) p4) fun z => z = .int vv := by
    intro scope p1 p2 p3 p4 led kk vv C oC g1 g2 g3 hb hn hl
    refine' EvH.subD (d := hd) (o := ho) (Dl := []) (kk := kk) (EvH.attr (EvH.cell (a := cx) (o := co) (v := .ref mx) rfl (.tail _ (hb _ (.head _))) hco' g1 g2 ?zr4 rfl) (.tail _ (hb _ (.tail _ (.head _)))) (.tail _ (hb _ (.tail _ (.tail _ (.head _))))) hmo ?zhv ?zk1 ?zk2 ?zk3 ?zk4 ?zk5 ?zk6 ?zk7) (EvH.loc (.head _) hn g1 g3 ?zr5 rfl) hlo (.tail _ (hb _ (.tail _ (.tail _ (.tail _ (.head _)))))) hho hl ?zk8 rfl
    (case zr4 => kernel_rfl)
    (case zr5 => kernel_rfl)
    (case zhv => k_extra "lk")
    (case zk1 => k_is)
    (case zk2 => k_is)
    (case zk3 => k_is)
    (case zk4 => k_is)
    (case zk5 => exact rfl)
    (case zk6 => kernel_rfl)
    (case zk7 => exact rfl)
    (case zk8 => intro _; kernel_rfl)
  refine' ForC.rows (base := [(cx, co), (mx, instObj 534 md), (md, mo), (hd, ho)]) (Dl := []) ?zw1 ?zw2 ?zw3 ?zw4 ?zw5 ?zw6 ?zw7 [] [] _ ?zw8 ?zw9 ?_
  (case zw1 => intro led kk vv C oC; refine' key led kk vv C oC ?zx1 ?zx2 ?zx3; (case zx1 => exact rfl); (case zx2 => kernel_rfl); (case zx3 => kernel_rfl))
  (case zw2 => intro led kk vv C oC; refine' key led kk vv C oC ?zx1 ?zx2 ?zx3; (case zx1 => exact rfl); (case zx2 => kernel_rfl); (case zx3 => kernel_rfl))
  (case zw3 => intro _; exact rfl)
  (case zw4 => intro _; kernel_rfl)
  (case zw5 => kernel_rfl)
  (case zw6 => intro _; kernel_rfl)
  (case zw7 => intro _; kernel_rfl)
  (case zw9 => exact fun q hq => hq)
  (case zw8 => exact fun q hq => nomatch hq)
  intro lx' lo' il
  repeat' (first | k_extra "am" | fail "end")
  all_goals exact FinN.ret (h _ _ (by assumption)) (by k_extra "take")
end Mine
theorem Mine.rowsM38_2 : True := by
  (k_with "amcall" => ((with_reducible refine' Mine.CallV.n (Mine.a_written3 _ _ _ _ _ _ _ ?zp0 ?zp1 ?zp2 ?zp3 (fun lx' x1' x2' x3' lo' o1' o2' o3' il' i1' i2' i3' => ?_)) ?zhd (Mine.Takes.cons ?zt1 (Mine.Takes.cons ?zt2 (Mine.Takes.cons ?zt3 Mine.Takes.nil)))); k_extra "c30"; (case zp1 => k_extra "dict"); (case zt3 => k_extra "rem"); (case zp2 => assumption); (case zp0 => assumption); (case zp3 => assumption); (case zhd => decide)))
  (k_with "amcall" => ((with_reducible refine' Mine.CallV.n (Mine.a_written2 _ _ _ _ _ _ ?zp0 ?zp1 ?zp2 (fun lx' x1' x3' lo' o1' o3' il' i1' i3' => ?_)) ?zhd (Mine.Takes.cons ?zt1 (Mine.Takes.cons ?zt2 (Mine.Takes.cons ?zt3 Mine.Takes.nil)))); k_extra "c44"; k_extra "c36"))
  (k_with "amcall" => ((with_reducible refine' Mine.CallV.n (Mine.a_written0 _ _ _ _ _ ?zp0 ?zp1 ?zp2 (fun lx' lo' il' => ?_)) ?zhd (Mine.Takes.cons ?zt1 (Mine.Takes.cons ?zt2 (Mine.Takes.cons ?zt3 Mine.Takes.nil)))); k_extra "c44"; k_extra "c36"))
  trivial
namespace Mine
variable {w : World} {S : Scope} {D : Nat}
theorem cellT (w : World) (p : Program) (loose : List Str) (mean : ExcName → Option Value) (mg mb : Str → Option Value) : CellTells PW w (K w.params) p loose mean mg mb 921 0 := by cell_step
def Scr (base : Heap) (sl : Addr) (ns : List Int) : Prop := ∃ vs, base.IsList sl vs.toArray ∧ IntsAre vs ns ∧ ns.length ≤ 63
section r39
open PyProof.Rows.LCg
variable {c : Cx w S D} {l : Locs} {led : Led} {P : AV → Led → Prop} {R : Out → Locs → Led → Prop} {x y : Str} {pos px py cpos fpos spos : Pos} {k : Nat} {a sl : Addr} {o : Obj} {i : Int} {ns : List Int}
theorem cell_call' {s : Shared} {Q E : Value → Shared → Prop} {m : Str → Option Value} {t : Tok} (hS : Scr c.base sl ns) (h0 : 0 ≤ i) (hD : 1 ≤ D) (F : Fr c.g c.L s.heap m) (N : News c.g c.L s.heap led) (h : ∀ t h' tk', Fr c.g c.L h' m → News c.g c.L h' led → Q (.int (cellAt ns i 0) t) { s with heap := h', toks := tk' }) : wpAny (model PW w) c.A (call (.ref 921) [.ref sl, .int i t]) Q E s := by
  obtain ⟨vs, h1, h2, h3⟩ := hS
  have hu := c.hu
  have hd := c.hd
  exact cellTells_use c.B F c.X N c.T c.hk h1 h2 (by omega) h0 (cellT w _ _ _ _ _) (by omega) (by omega) h
theorem CallV.cell (hS : Scr c.base sl ns) (h0 : 0 ≤ i) (hD : 1 ≤ D) (h : P (.int (cellAt ns i 0)) led) : CallV c l (.ref 921) [.ref sl, .int i] led P := fun us hv s Q E hA hQ => by
  obtain ⟨_, _, rfl, e, ⟨t, rfl⟩⟩ := VIs.two hv
  obtain rfl := e
  obtain ⟨⟨m, F, hl⟩, N, nd⟩ := hA
  exact cell_call' hS h0 hD F N fun t h' tk' F' N' => hQ _ _ _ h' tk' h ⟨t, rfl⟩ ⟨⟨m, F', hl⟩, N', nd⟩
theorem Ev.cellR {b : Addr} (hc : c.cl.lookup x = some a) (hm : (a, o) ∈ led) (hd : o.data = .cell (some (.ref b))) (hx : S.names.lookup x = some .cell) (hb : (x == ("__debug__" : Str)) = false) (h : P (.ref b) led) : Ev c l led (.Name x pos) P := fun s Q E hA hQ =>
  nameX_C hA.nw hc hm hd (hQ _ _ _ s.heap s.toks h rfl hA) c.hk hx hb
theorem Ev.cellI (hc : c.cl.lookup x = some a) (hm : (a, o) ∈ led) (hd : ∃ t, o.data = .cell (some (.int i t))) (hx : S.names.lookup x = some .cell) (hb : (x == ("__debug__" : Str)) = false) (h : P (.int i) led) : Ev c l led (.Name x pos) P := fun s Q E hA hQ => by
  obtain ⟨t, hd⟩ := hd
  exact nameX_C hA.nw hc hm hd (hQ _ _ _ s.heap s.toks h ⟨_, rfl⟩ hA) c.hk hx hb
def CelI (v : AV) (X : Int → Prop) : Prop := ∃ i, v = .int i ∧ X i
theorem CelI.intro {X : Int → Prop} (h : X i) : CelI (.int i) X := ⟨i, rfl, h⟩
theorem Run.assignCell {e : PySem.Expr} {rest : List Stmt} {g : Obj → Led} {v₀ : Option Value} (hc : c.cl.lookup x = some a) (hd : o.data = .cell v₀) (hx : S.names.lookup x = some .cell)
    (h : Ev c l led e fun v led' => led' = led ∧ CelI v fun i => ∀ o', (∃ t, o'.data = .cell (some (.int i t))) → Run c l (g o') rest R) (U : Put a o led g)
    (hs : swapsWith e (some (.Name x px)) pos.line c.env = pure false) : Run c l led (.Assign [.Name x px] e pos :: rest) R := fun s Q E hE hA hQ => by
  refine wpAny_execs_cons (wpAny_Assign_Name (h s _ E hA fun v led' u h' tk' hP hv hA' => ?_) hs)
  obtain ⟨rfl, i, rfl, hP⟩ := hP
  obtain ⟨t, rfl⟩ := hv
  obtain ⟨⟨m, F, hl⟩, N, nd⟩ := hA'
  refine storeX_C F N hc (U.to_updF nd) hd (fun h2 o2 F2 N2 hd2 => ?_) c.hk hx
  exact hP o2 ⟨_, hd2⟩ _ _ _ hE ⟨⟨m, F2, hl⟩, N2, U.nd nd o2⟩ fun o l' led'' f h3 tk3 hR ho hA3 => hQ _ _ _ _ h3 tk3 hR ho hA3
def EvM (c : Cx w S D) (env : Env) (led : Led) (e : PySem.Expr) (i : Int) : Prop := ∀ (m : Str → Option Value) (s : Shared) (Q E : Value → Shared → Prop), Fr c.g c.L s.heap m → News c.g c.L s.heap led → (∀ t h' tk', Fr c.g c.L h' m → News c.g c.L h' led → Q (.int i t) { s with heap := h', toks := tk' }) → wpAny (model PW w) c.A (eval e env) Q E s
variable {env : Env} {e1 e2 : PySem.Expr} {i1 i2 i3 : Int} {op : Operator}
theorem EvM.ofH {e : PySem.Expr} (h : EvH c env led e fun v => v = .int i) : EvM c env led e i := fun m s Q E F N hQ => h m s Q E F N fun v u tk' e hu => by
  subst e
  obtain ⟨t, rfl⟩ := hu
  exact hQ t s.heap tk' F N
theorem EvM.bin (h1 : EvM c env led e1 i1) (h2 : EvM c env led e2 i2) (h : ∀ (t u : Tok) (s : Shared) (Q E : Value → Shared → Prop), (∀ t', Q (.int i3 t') { s with toks := s.toks + 1 }) → wpAny (model PW w) c.A (binaryOp op (.int i1 t) (.int i2 u)) Q E s) : EvM c env led (.BinOp e1 op e2 pos) i3 := fun m s Q E F N hQ =>
  wpAny_BinOp (h1 m s _ E F N fun t1 h1' tk1 F1 N1 => h2 m { s with heap := h1', toks := tk1 } _ E F1 N1 fun t2 h2' tk2 F2 N2 => h t1 t2 _ _ E fun t' => hQ t' h2' _ F2 N2)
theorem EvM.cellAt {scope : Scope} {cl : List (Str × Addr)} {C : Addr} {f sn : Str} {fp sp : Pos} {env : Env} {e2 : PySem.Expr} (hS : Scr c.base sl ns) (h0 : 0 ≤ i) (hD : 1 ≤ D) (hn : nsIn (K w.params) mainGlobals f = some (some (.ref 921))) (hk921 : keepIn (K w.params) (.ref 921) = true) (hg : env.globals = mainGlobals) (hk : (compEnvC scope cl C env).scope.kind = .function) (hf : (compEnvC scope cl C env).kindOf f = some .globalImplicit) (hfd : (f == ("__debug__" : Str)) = false)
    (h1 : EvH c (compEnvC scope cl C env) led (.Name sn sp) fun v => v = .ref sl) (h2 : EvH c (compEnvC scope cl C env) led e2 fun v => v = .int i)
    (hs : starEach [.Name sn sp, e2] (compEnvC scope cl C env) = (false, eval (.Name sn sp) (compEnvC scope cl C env)) :: starEach [e2] (compEnvC scope cl C env)) (hs2 : starEach [e2] (compEnvC scope cl C env) = (false, eval e2 (compEnvC scope cl C env)) :: starEach [] (compEnvC scope cl C env)) (ha : ∀ pos, ((backTo pos (starEach [e2] (compEnvC scope cl C env))).any fun x => x.1) = false)
    (hc : eval (.Call (.Name f fp) [.Name sn sp, e2] [] pos) (compEnvC scope cl C env) = (do let g ← eval (.Name f fp) (compEnvC scope cl C env); callWith pos g [] (backTo pos (starEach [.Name sn sp, e2] (compEnvC scope cl C env))) (backToKw pos (keywordEach [] (compEnvC scope cl C env))))) : EvM c (compEnvC scope cl C env) led (.Call (.Name f fp) [.Name sn sp, e2] [] pos) (cellAt ns i 0) := fun m s Q E F N hQ => by
  refine Call_ (LCgL.ld_global F c.X c.T hn ?_ hg hk hf hfd) hc
  refine callWith_K (K := K w.params) c.X hk921 (args_cons (h1 m s _ E F N fun v1 u1 tk1 e1 hu1 => args_cons (h2 m { s with heap := s.heap, toks := tk1 } _ E F N fun v2 u2 tk2 e2 hu2 => args_nil ?_) hs2) hs) hs (ha pos)
  subst e1
  subst e2
  obtain rfl : u1 = .ref sl := hu1
  obtain ⟨t2, rfl⟩ := hu2
  refine ⟨c.X.keeps F.keep, ?_⟩
  exact cell_call' (s := { s with heap := s.heap, toks := tk2 }) hS h0 hD F N fun t h' tk' F' N' => hQ t h' tk' F' N'
theorem Run.assignRange {elt : PySem.Expr} {rest : List Stmt} {scope : Scope} {cl : List (Str × Addr)} {f : AV → Locs} {n : Nat} {nI : Int} {fn : Str} {kc : Nat} {pc : Pos} (gf : Int → Int)
    (hsw : swapsWith (.ListComp elt [⟨.Name x px, .Call (.Name fn fpos) [.Constant (.int nI) kc pc] [] cpos, [], 0⟩] scope pos) (some (.Name y py)) spos.line c.env = pure true)
    (hclos : closureFor scope c.env = pure cl) (hcell : ∀ y ∈ scope.names, y.2 ≠ .cell) (hkind : scope.kind = .function) (hnames : ∀ y ∈ scope.names, y.2 = .local → scope.names.lookup y.1 = some .local) (hx : scope.names.lookup x = some .local)
    (hy : S.names.lookup y = some .local) (hs : ∀ x, foldedSetIterable (.Call (.Name fn fpos) [.Constant (.int nI) kc pc] [] cpos) c.env x = pure x)
    (hn : nsIn (K w.params) mainGlobals fn = some Option.none) (hv : bootBuiltins fn = some (.type "range")) (hnn : fn ≠ "__name__") (hf0 : S.names.lookup fn = some .globalImplicit) (hfd : (fn == ("__debug__" : Str)) = false)
    (hst : starEach [.Constant (.int nI) kc pc] c.env = (false, eval (.Constant (.int nI) kc pc) c.env) :: starEach [] c.env) (ha : ∀ pos, ((backTo pos (starEach [] c.env)).any fun x => x.1) = false)
    (hc : eval (.Call (.Name fn fpos) [.Constant (.int nI) kc pc] [] cpos) c.env = (do let g ← eval (.Name fn fpos) c.env; callWith cpos g [] (backTo cpos (starEach [.Constant (.int nI) kc pc] c.env)) (backToKw cpos (keywordEach [] c.env))))
    (hni : nI = (n : Int)) (h2 : Builtin.Range.small 0 (n : Int) 1 = true) (h3 : Builtin.Range.rangeSize 0 (n : Int) 1 = (n : Int)) (hz : n ≤ 1000) (hput : PutL y l f)
    (helt : ∀ (k : Int) (C : Addr) (oC : Obj) (q1 q3 : Addr × Obj), 0 ≤ k → k < (n : Int) → NsC oC x (.int k) → EvM c (compEnvC scope cl C c.env) (q1 :: (C, oC) :: q3 :: led) elt (gf k))
    (hrest : ∀ D' o, IsIL o ((rangeKs 0 n).map gf) → Run c (f (.ref D')) ((D', o) :: led) rest R) : Run c l led (.Assign [.Name y py] (.ListComp elt [⟨.Name x px, .Call (.Name fn fpos) [.Constant (.int nI) kc pc] [] cpos, [], 0⟩] scope pos) spos :: rest) R := fun s Q E hE hA hQ => by
  obtain ⟨⟨m, F, hl⟩, N, nd⟩ := hA
  refine wpAny_execs_cons (Assign_ListComp_U (L := c.L) F rfl hsw hclos hcell hkind hnames hx hy ?_ ?_ hs)
  · show (S.kind == .class || (S.kind == .module && c.L != mainGlobals)) = false
    rw [c.hk]; rfl
  refine Call_ (nameX_B F c.X (topRead_of c.T) hn hv hnn ?_ c.hk hf0 hfd) hc
  refine PyProof.Rows.callWith_type1 (args_cons (wpAny_Constant_int (args_nil ?_)) hst) hst (ha cpos)
  subst hni
  refine call_range_1 ?_
  refine CompSrc.range (h₀ := c.g) (L := c.L) (m := m) (a := 0) (b := (n : Int)) (n := n) (news := led) rfl (F.push _) (fun q hq => (News.push F N _) q (.tail _ hq)) (Heap.get?_push_size _ rfl) h2 h3 (Nat.le_trans hz (Nat.le_of_ble_eq_true rfl)) fun g => ?_
  refine kcf_range gf (fun k t I oI C oC D' m₂ ys h' tk E' k0 k1 hNs hx' F' N' off ne _ => ?_) (fun ys hys => ?_)
  · exact helt k C oC (I, oI) (D', lst ys) k0 (by omega) ⟨m₂, _, hNs, hx', t, rfl⟩ m { s with heap := h', toks := tk } _ E' F' N' fun t' h2 tk2 F2 N2 => CompEnd.intro F2 N2 led (fun _ h => h) off trivial ⟨rfl, t', rfl⟩
  · intro D' h' tk F' N' o1
    refine hrest D' (lst ys) ⟨ys, _, rfl, hys⟩ { s with heap := h', toks := tk } Q E hE ⟨⟨_, F', loc_put hput (show (AV.ref D').Is (.ref D') from rfl) hl⟩, N', ?_⟩ fun o l' led' f h2 tk2 hR ho hA2 => hQ _ _ _ _ h2 tk2 hR ho hA2
    rw [List.map_cons, List.nodup_cons]
    exact ⟨fun hm => by obtain ⟨p, hp, e⟩ := List.mem_map.mp hm; exact off1_mem o1 p hp e, nd⟩
end r39
end Mine
namespace Mine
def rowsL : List Str := [⟨#[111]⟩, ⟨#[110, 111]⟩, ⟨#[98, 44, 99, 44, 110, 97, 101]⟩, ⟨#[97, 101, 44, 110, 99, 44, 110, 98]⟩, ⟨#[101, 44, 122]⟩, ⟨#[110, 101, 44, 110, 122]⟩, ⟨#[98, 101, 44, 110, 97]⟩, ⟨#[97, 44, 110, 98, 101]⟩, ⟨#[115]⟩, ⟨#[110, 115]⟩, ⟨#[112, 44, 112, 101]⟩, ⟨#[110, 112, 44, 112, 111]⟩, ⟨#[108, 44, 110, 103, 101]⟩, ⟨#[103, 101, 44, 110, 108]⟩, ⟨#[108, 101, 44, 110, 103]⟩, ⟨#[103, 44, 110, 108, 101]⟩]
theorem rows_eq : Txt.split (Str.ofString "o no b,c,nae ae,nc,nb e,z ne,nz be,na a,nbe s ns p,pe np,po l,nge ge,nl le,ng g,nle") (Str.ofString " ") = rowsL := by decide +kernel
theorem rows_names_dec : ∀ k : Fin 16, (Txt.split (rowsL.getD k.val ⟨#[]⟩) (Str.ofString ",") == namesL k.val) = true := by decide +kernel
theorem rows_names {k : Nat} (h : k < 16) : Txt.split (rowsL.getD k ⟨#[]⟩) (Str.ofString ",") = namesL k := eq_of_beq (rows_names_dec ⟨k, h⟩)
theorem rows_len_dec : ∀ k : Fin 16, Nat.ble ((rowsL.getD k.val ⟨#[]⟩).length + 2) 12 = true := by decide +kernel
theorem rows_len {k : Nat} (h : k < 16) : (rowsL.getD k ⟨#[]⟩).length + 2 ≤ sizeLine := Nat.le_trans (Nat.le_of_ble_eq_true (rows_len_dec ⟨k, h⟩)) (Nat.le_of_ble_eq_true rfl)
theorem names_len_dec : ∀ k : Fin 16, (Nat.ble (namesL k.val).length 3 && Nat.blt 0 (namesL k.val).length) = true := by decide +kernel
theorem names_len {k : Nat} (h : k < 16) : (namesL k).length ≤ 3 ∧ 0 < (namesL k).length := by
  have h := Bool.and_eq_true_iff.mp (names_len_dec ⟨k, h⟩)
  exact ⟨Nat.le_of_ble_eq_true h.1, by have := h.2; rw [Nat.blt_eq] at this; exact this⟩
def wvOf (y : Int) : Nat := if y < 2 then 0 else if y = 2 then 1 else 2
theorem wv_lt (y : Int) : wvOf y < 3 := by unfold wvOf; split <;> (try split) <;> omega
theorem nl_pos {k : Nat} (h : k < 16) : (0 : Int) < ((namesL k).length : Int) := by have := names_len h; omega
theorem nl_ix {a : Int} {k : Nat} (h : k < 16) : a % ((namesL k).length : Int) = ((a % ((namesL k).length : Int)).toNat : Int) := by
  rw [Int.toNat_of_nonneg (Int.emod_nonneg _ (Int.ne_of_gt (nl_pos h)))]
theorem nl_lt {a : Int} {k : Nat} (h : k < 16) : (a % ((namesL k).length : Int)).toNat < (namesL k).length := by
  have := Int.emod_lt_of_pos a (nl_pos h)
  have := Int.emod_nonneg a (Int.ne_of_gt (nl_pos h))
  omega
theorem nl_le {k : Nat} (h : k < 16) : (namesL k).length ≤ 100 := by have := names_len h; omega
theorem nl_lt3 {a : Int} {k : Nat} (h : k < 16) : (a % ((namesL k).length : Int)).toNat < 3 := by
  have h1 := nl_lt (a := a) h
  have h2 := names_len h
  omega
theorem wn_ne {wv k : Nat} (hw : wv < 3) (hk : k < 16) : (nm wv k != wn wv k 0) = false := by
  have := eq_of_beq (wn_0_dec ⟨wv, hw⟩ ⟨k, hk⟩)
  rw [show wn wv k 0 = nm wv k from this]
  simp
theorem mod_b {a n : Int} (h : n = 8 ∨ n = 16 ∨ n = 32 ∨ n = 64) : 0 ≤ a % 2 ^ n.toNat ∧ a % 2 ^ n.toNat < 2 ^ 64 := by
  refine ⟨Int.emod_nonneg _ (Int.ne_of_gt (two_pos _)), Int.lt_of_lt_of_le (Int.emod_lt_of_pos _ (two_pos _)) ?_⟩
  rcases h with rfl | rfl | rfl | rfl <;> decide
def wrowsL : List Str := [⟨#[109, 111, 118, 122, 120, 58, 56, 58, 49, 54]⟩, ⟨#[109, 111, 118, 122, 120, 58, 56, 58, 51, 50]⟩, ⟨#[109, 111, 118, 122, 120, 58, 56, 58, 54, 52]⟩, ⟨#[109, 111, 118, 122, 120, 58, 49, 54, 58, 51, 50]⟩, ⟨#[109, 111, 118, 122, 120, 58, 49, 54, 58, 54, 52]⟩, ⟨#[109, 111, 118, 115, 120, 58, 56, 58, 49, 54]⟩, ⟨#[109, 111, 118, 115, 120, 58, 56, 58, 51, 50]⟩, ⟨#[109, 111, 118, 115, 120, 58, 56, 58, 54, 52]⟩, ⟨#[109, 111, 118, 115, 120, 58, 49, 54, 58, 51, 50]⟩, ⟨#[109, 111, 118, 115, 120, 58, 49, 54, 58, 54, 52]⟩, ⟨#[109, 111, 118, 115, 120, 100, 58, 51, 50, 58, 54, 52]⟩]
theorem wrows_eq : Txt.split (Str.ofString "movzx:8:16 movzx:8:32 movzx:8:64 movzx:16:32 movzx:16:64 movsx:8:16 movsx:8:32 movsx:8:64 movsx:16:32 movsx:16:64 movsxd:32:64") (Str.ofString " ") = wrowsL := by decide +kernel
theorem wrow_facts {j : Nat} (h : j < 11) : ∃ (x1 x2 x3 : Str) (n1 n2 : Int), (Txt.split (wrowsL.getD j ⟨#[]⟩) (Str.ofString ":") = [x1, x2, x3] ∧ PySem.intText? x2 = some n1 ∧ x2.length ≤ 640 ∧ PySem.intText? x3 = some n2 ∧ x3.length ≤ 640 ∧ (n1 = 8 ∨ n1 = 16 ∨ n1 = 32) ∧ (n2 = 16 ∨ n2 = 32 ∨ n2 = 64) ∧ n1 < n2) := by
  rcases (by omega : j = 0 ∨ j = 1 ∨ j = 2 ∨ j = 3 ∨ j = 4 ∨ j = 5 ∨ j = 6 ∨ j = 7 ∨ j = 8 ∨ j = 9 ∨ j = 10) with rfl | rfl | rfl | rfl | rfl | rfl | rfl | rfl | rfl | rfl | rfl
  · exact ⟨⟨#[109, 111, 118, 122, 120]⟩, ⟨#[56]⟩, ⟨#[49, 54]⟩, 8, 16, by decide +kernel, by decide +kernel, by decide +kernel, by decide +kernel, by decide +kernel, by decide, by decide, by decide⟩
  · exact ⟨⟨#[109, 111, 118, 122, 120]⟩, ⟨#[56]⟩, ⟨#[51, 50]⟩, 8, 32, by decide +kernel, by decide +kernel, by decide +kernel, by decide +kernel, by decide +kernel, by decide, by decide, by decide⟩
  · exact ⟨⟨#[109, 111, 118, 122, 120]⟩, ⟨#[56]⟩, ⟨#[54, 52]⟩, 8, 64, by decide +kernel, by decide +kernel, by decide +kernel, by decide +kernel, by decide +kernel, by decide, by decide, by decide⟩
  · exact ⟨⟨#[109, 111, 118, 122, 120]⟩, ⟨#[49, 54]⟩, ⟨#[51, 50]⟩, 16, 32, by decide +kernel, by decide +kernel, by decide +kernel, by decide +kernel, by decide +kernel, by decide, by decide, by decide⟩
  · exact ⟨⟨#[109, 111, 118, 122, 120]⟩, ⟨#[49, 54]⟩, ⟨#[54, 52]⟩, 16, 64, by decide +kernel, by decide +kernel, by decide +kernel, by decide +kernel, by decide +kernel, by decide, by decide, by decide⟩
  · exact ⟨⟨#[109, 111, 118, 115, 120]⟩, ⟨#[56]⟩, ⟨#[49, 54]⟩, 8, 16, by decide +kernel, by decide +kernel, by decide +kernel, by decide +kernel, by decide +kernel, by decide, by decide, by decide⟩
  · exact ⟨⟨#[109, 111, 118, 115, 120]⟩, ⟨#[56]⟩, ⟨#[51, 50]⟩, 8, 32, by decide +kernel, by decide +kernel, by decide +kernel, by decide +kernel, by decide +kernel, by decide, by decide, by decide⟩
  · exact ⟨⟨#[109, 111, 118, 115, 120]⟩, ⟨#[56]⟩, ⟨#[54, 52]⟩, 8, 64, by decide +kernel, by decide +kernel, by decide +kernel, by decide +kernel, by decide +kernel, by decide, by decide, by decide⟩
  · exact ⟨⟨#[109, 111, 118, 115, 120]⟩, ⟨#[49, 54]⟩, ⟨#[51, 50]⟩, 16, 32, by decide +kernel, by decide +kernel, by decide +kernel, by decide +kernel, by decide +kernel, by decide, by decide, by decide⟩
  · exact ⟨⟨#[109, 111, 118, 115, 120]⟩, ⟨#[49, 54]⟩, ⟨#[54, 52]⟩, 16, 64, by decide +kernel, by decide +kernel, by decide +kernel, by decide +kernel, by decide +kernel, by decide, by decide, by decide⟩
  · exact ⟨⟨#[109, 111, 118, 115, 120, 100]⟩, ⟨#[51, 50]⟩, ⟨#[54, 52]⟩, 32, 64, by decide +kernel, by decide +kernel, by decide +kernel, by decide +kernel, by decide +kernel, by decide, by decide, by decide⟩
theorem wrow_len_dec : ∀ k : Fin 11, Nat.ble ((wrowsL.getD k.val ⟨#[]⟩).length + 2) 20 = true := by decide +kernel
theorem wrow_len {k : Nat} (h : k < 11) : (wrowsL.getD k ⟨#[]⟩).length + 2 ≤ sizeLine := Nat.le_trans (Nat.le_of_ble_eq_true (wrow_len_dec ⟨k, h⟩)) (Nat.le_of_ble_eq_true rfl)
end Mine
namespace Mine
def CallsGB (w : World) (Bp : Heap → Prop) (f : Addr) (vs : List AV) (sub : Led) (d : Nat) (P : AV → Led → Prop) : Prop :=
  (sub.map (·.1)).Nodup → ∀ us, VIs vs us → ∀ (p : Program) (loose : List Str) (mean : ExcName → Option Value) (mg mb : Str → Option Value) (dp un : Nat) (gd : Option (List Code)) (cn : Str) (cs : Scope) (a : Addr) (ccd : Value) (cl : List (Str × Addr)) (outer : List Env) (A₀ : Around) (base h₀ : Heap) (L : Addr) (m : Str → Option Value) (s : Shared) (R : Result → Shared → Prop),
    Bp base → Below A₀ base outer h₀ → Fr h₀ L s.heap m → (K w.params).In h₀ → News h₀ L s.heap sub → Top p loose mean mg mb h₀ → cs.kind = .function → dp + d < recursionLimit → un + 8 * d < cLine →
    (∀ a v nw h' tk', a.Is v → P a nw → Fr h₀ L h' m → News h₀ L h' nw → (nw.map (·.1)).Nodup → (∀ q ∈ nw, q.1 ∈ sub.map (·.1) ∨ s.heap.get? q.1 = none) → (∀ a o, s.heap.get? a = some o → a ∉ sub.map (·.1) → h'.get? a = some o) → R (.ok (.ret v)) { s with heap := h', toks := tk' }) →
    codeAny (model PW w) (ktrTop dp un gd cn cs L a ccd cl outer) (.call (.ref f) ⟨us, []⟩) R s
variable {w : World} {S : Scope} {D : Nat}
section callsB
variable {c : Cx w S D} {l : Locs} {led sub rest : Led} {P : AV → Led → Prop} {f : Addr} {vs : List AV} {d : Nat}
theorem CallV.gB {Bp : Heap → Prop} (C : CallsGB w Bp f vs sub d fun v nw => P v (nw ++ rest)) (hB : Bp c.base) (hd : d ≤ D) (T : TakeR sub led rest) : CallV c l (.ref f) vs led P := fun us hv s Q E hA hQ => by
  obtain ⟨m, F, hl⟩ := hA.fr
  have hp := T.perm
  refine wpAny_call (C (sub_nd hp hA.nd) us hv c.p c.loose c.mean c.mg c.mb c.dp c.un c.gd c.cn S c.a c.ccd c.cl c.outer c.A₀ c.base c.g c.L m s _ hB c.B F c.X (fun q hq => hA.nw q (hp.mem_iff.mpr (List.mem_append_left _ hq))) c.T c.hk (Nat.lt_of_le_of_lt (Nat.add_le_add_left hd _) c.hd) (Nat.lt_of_le_of_lt (Nat.add_le_add_left (Nat.mul_le_mul_left 8 hd) _) c.hu) ?_)
  intro a v nw h' tk' i hP F' N' nd fr kp
  obtain ⟨N2, nd2⟩ := keep_rest hp hA.nd hA.nw N' nd fr kp
  exact hQ a _ v h' tk' hP i ⟨⟨m, F', hl⟩, N2, nd2⟩
end callsB
section entry
variable {f : Addr} {vs : List AV} {sub : Led} {name qual : Str} {params : Arguments} {body : List Stmt} {dV kV doc pm cdv ct oc : Value} {an od : Option Addr} {osl : Array (Option Value)} {ns : List Str} {ds : List Value} {dvs : List AV}
theorem CallsGB.of_body {Bp : Heap → Prop} {P : AV → Led → Prop} (D : Nat) {d : Nat} (ho : (K w.params).lookup f = some ⟨oc, od, .func (fnOf name qual params body S dV kV doc pm an cdv ct), osl⟩) (hcd : codeIn (K w.params) cdv qual = true)
    (hdv : VIs dvs ds) (hb : ForV vs.length fun us => ∀ s : Shared, (K w.params).In s.heap → BindsTo s (fnOf name qual params body S dV kV doc pm an cdv ct) ⟨us, []⟩ (ns.zip (us ++ ds))) (hloc : (ns.all fun x => decide (S.names.lookup x = some .local)) = true)
    (hco : S.isCoroutine = false) (hgen : S.isGenerator = false) (hk : S.kind = .function) (hcell : ∀ x ∈ S.names, x.2 ≠ .cell) (hD : D + 1 ≤ d)
    (h : ∀ c : Cx w S D, Bp c.base → Run c (ns.zip (vs ++ dvs)).reverse sub body (FinG P)) : CallsGB w Bp f vs sub d P := by
  intro nd us hv p loose mean mg mb dp un gd cn cs a ccd cl outer A₀ base h₀ L m s R hBp B F X N T hkc hd hu hret
  refine code_defS (binds := ns.zip (us ++ ds)) B F X N T rfl rfl hkc ho hcd (Nat.lt_of_le_of_lt (Nat.le_add_right _ _) hd) (ForV.use hb hv s (X.keeps F.keep)) (fun y hy => ?_) (fun g L' h₁ FG F' N' B' X' T' GX => ?_) hco hgen hk hcell
  · exact of_decide_eq_true (List.all_eq_true.mp hloc _ (List.of_mem_zip hy).1)
  · refine h ⟨p, loose, mean, mg, mb, dp + 1, un + 3, gd, qual, f, cdv, [], envX cn cs L a ccd cl :: outer, _, base, g, L', B', X', T', hk, by omega, by omega⟩ hBp _ _ _ PassesOwn.leaving ⟨⟨_, F', BIs.look (BIs.rev (BIs.zip (hv.app hdv)))⟩, N', nd⟩ (fun o l' led' fl h' tk' hP hfl hA => ?_)
    obtain ⟨av, nw, ha, hP, ht⟩ := hP
    obtain ⟨m'', F'', _⟩ := hA.fr
    have hm : ∀ q ∈ sub, q.1 ∈ sub.map (·.1) := fun q hq => List.mem_map_of_mem hq
    refine leaveK_ F'' hA.nw fun F3 N3 => hret av _ nw h' tk' (flow_val hfl ha) hP F3 (fun q hq => N3 q (ht.mem q hq)) (ht.nd hA.nd) ?_ ?_
    · intro q hq
      by_cases hq' : q.1 ∈ sub.map (·.1)
      · exact .inl hq'
      · refine .inr ?_
        cases e : s.heap.get? q.1 with
        | none => rfl
        | some o =>
          have := GX q.1 o e fun p hp he => hq' (by have := hm p hp; rwa [he] at this)
          rw [(hA.nw q (ht.mem q hq)).2.2] at this
          cases this
    · intro b o e hn
      exact F''.keep _ _ (GX b o e fun p hp he => hn (by have := hm p hp; rwa [he] at this))
end entry
inductive IntL : List AV → List Int → Prop
  | nil : IntL [] []
  | cons {x vs ys} : IntL vs ys → IntL (.int x :: vs) (x :: ys)
section r40
variable {c : Cx w S D} {l : Locs} {led : Led} {P : AV → Led → Prop} {R : Out → Locs → Led → Prop} {a : Addr} {o : Obj} {ns : List Int} {ys : List Str} {vs : List AV} {x y z : Str} {pos tpos px py pz : Pos} {k : Nat} {e b i : PySem.Expr} {rest : List Stmt} {kk : Int}
theorem CallV.intT {n : Int} (hn : PySem.intText? x = some n) (hl : x.length ≤ 640) (h : P (.int n) led) : CallV c l (.type "int") [.str x] led P := fun us hv s Q E hA hQ => by
  match us, hv with
  | [_], ⟨⟨t, rfl⟩, _⟩ => exact KIN.call_text hn hl (hQ _ _ _ s.heap _ h ⟨_, rfl⟩ hA)
theorem CallV.listIL (ho : (a, o) ∈ led) (hi : IsIL o ns) (hz : ns.length ≤ 1000) (h : ∀ D' o', IsIL o' ns → P (.ref D') ((D', o') :: led)) : CallV c l (.type "list") [.ref a] led P := fun us hv s Q E hA hQ => by
  match us, hv with
  | [u], ⟨i, _⟩ =>
    obtain rfl : u = .ref a := i
    obtain ⟨us, n, rfl, hs⟩ := hi
    obtain ⟨⟨m, F, hl⟩, N, nd⟩ := hA
    exact kup_listOf F N ho rfl (fun D' cc h' F' N' hD => hQ _ _ _ h' s.toks (h D' _ ⟨us, cc, rfl, hs⟩) rfl (At.cons F' hl N' hD nd)) (by show us.length ≤ sizeLine; rw [PyProof.Rows.IntsAre.length hs]; exact Nat.le_trans hz (Nat.le_of_ble_eq_true rfl))
theorem CallV.lenSL (ho : (a, o) ∈ led) (hi : IsSL o ys) (hz : ys.length ≤ 1000) (h : P (.int (ys.length : Int)) led) : CallV c l (.builtin "len") [.ref a] led P := fun us hv s Q E hA hQ => by
  match us, hv with
  | [u], ⟨i, _⟩ =>
    obtain rfl : u = .ref a := i
    obtain ⟨us, n, rfl, hs⟩ := hi
    have e := StrsAre.len hs
    refine PyProof.Rows.len_list (hA.nw.isList ho) (by rw [List.size_toArray, e]; omega) ?_
    rw [List.size_toArray, e]
    exact hQ _ _ _ s.heap _ h ⟨_, rfl⟩ hA
def Un3 (v : AV) (led : Led) (X : Str → Str → Str → Prop) : Prop := ∃ (a : Addr) (o : Obj) (x1 x2 x3 : Str), v = .ref a ∧ (a, o) ∈ led ∧ IsSL o [x1, x2, x3] ∧ X x1 x2 x3
theorem Un3.intro {X : Str → Str → Str → Prop} {x1 x2 x3 : Str} (h1 : (a, o) ∈ led) (h2 : IsSL o [x1, x2, x3]) (h : X x1 x2 x3) : Un3 (.ref a) led X := ⟨a, o, x1, x2, x3, rfl, h1, h2, h⟩
theorem Run.unpack3 {f : AV → Locs} {g : AV → AV → Locs} {g3 : AV → AV → AV → Locs} (hf : PutL x l f) (hg : ∀ v, PutL y (f v) (g v)) (hg3 : ∀ v u, PutL z (g v u) (g3 v u)) (hx : S.names.lookup x = some .local) (hy : S.names.lookup y = some .local) (hz : S.names.lookup z = some .local)
    (h : Ev c l led e fun v led' => Un3 v led' fun x1 x2 x3 => Run c (g3 (.str x1) (.str x2) (.str x3)) led' rest R)
    (hs : swapsWithSole [.Tuple [.Name x px, .Name y py, .Name z pz] k tpos] e pos.line c.env = pure false)
    (hn : swappedStores [.Tuple [.Name x px, .Name y py, .Name z pz] k tpos] e c.env = pure Option.none) : Run c l led (.Assign [.Tuple [.Name x px, .Name y py, .Name z pz] k tpos] e pos :: rest) R := fun s Q E hE hA hQ => by
  refine wpAny_execs_cons (Assign_Tuple (h s _ E hA fun v led' u h1 tk1 hP hv hA1 => ?_) hs hn)
  obtain ⟨a, o, x1, x2, x3, rfl, hm, ⟨us, n, rfl, hi⟩, hR⟩ := hP
  obtain rfl : u = .ref a := hv
  obtain ⟨_, _, _, rfl, ⟨t1, rfl⟩, ⟨t2, rfl⟩, ⟨t3, rfl⟩⟩ := VIs.three (a := .str x1) (b := .str x2) (d := .str x3) (StrsAre.vis hi)
  obtain ⟨⟨m, F, hl⟩, N, nd⟩ := hA1
  refine kun_list F N (N.isList hm) rfl rfl rfl fun h2 F2 N2 => ?_
  refine assignInOrder_cons (assign_Name (storeX_L F2 N2 (fun h4 F4 N4 => ?_) c.hk hx))
  refine assignInOrder_cons (assign_Name (storeX_L F4 N4 (fun h5 F5 N5 => ?_) c.hk hy))
  refine assignInOrder_cons (assign_Name (storeX_L F5 N5 (fun h6 F6 N6 => ?_) c.hk hz))
  exact assignInOrder_nil (hR _ _ _ hE ⟨⟨_, F6, loc_put (hg3 (.str x1) (.str x2)) (show (AV.str x3).Is _ from ⟨_, rfl⟩) (loc_put (hg (.str x1)) (show (AV.str x2).Is _ from ⟨_, rfl⟩) (loc_put hf (show (AV.str x1).Is _ from ⟨_, rfl⟩) hl))⟩, N6, nd⟩ fun o l' led'' f h7 tk7 hR7 ho hA7 => hQ _ _ _ _ h7 tk7 hR7 ho hA7)
theorem IntL.eq {vs : List AV} {ys : List Int} (h : IntL vs ys) : vs = ys.map .int := by
  induction h with
  | nil => rfl
  | cons _ ih => rw [ih]; rfl
theorem Sub.ilL (ho : (a, o) ∈ led) (hi : IsLs o vs) (hy : IntL vs ns) (h0 : 0 ≤ kk) (h1 : kk < ns.length) (h2 : kk < 2 ^ 63) (h : P (.int (ns.getD kk.toNat 0)) led) (hs : ∀ u, subscripted i false (.ref a) (.int kk u) = operate [.ref a, .int kk u] (getItem (.ref a) (.int kk u))) : Sub c l b i (.ref a) (.int kk) led P := by
  obtain ⟨us, n, rfl, hvs⟩ := hi
  rw [hy.eq] at hvs
  exact Sub.il ho ⟨us, n, rfl, VIs.ints hvs⟩ h0 h1 h2 h hs
theorem Sub.slL (ho : (a, o) ∈ led) (hi : IsLs o vs) (hy : StrL vs ys) (h0 : 0 ≤ kk) (h1 : kk < ys.length) (h2 : kk < 2 ^ 63) (h : P (.str (ys.getD kk.toNat Str.empty)) led) (hs : ∀ u, subscripted i false (.ref a) (.int kk u) = operate [.ref a, .int kk u] (getItem (.ref a) (.int kk u))) : Sub c l b i (.ref a) (.int kk) led P := by
  obtain ⟨us, n, rfl, hvs⟩ := hi
  rw [hy.eq] at hvs
  exact Sub.sl ho ⟨us, n, rfl, VIs.strs hvs⟩ h0 h1 h2 h hs
end r40
end Mine
theorem Mine.rowsM40_1 : True := by
  (k_with "amRun" => ((with_reducible refine' Mine.Run.unpack3 ?zhf ?zhg ?zhg3 ?zhx ?zhy ?zhz ?_ ?zhs ?zhn); (case zhf => k_extra "putl"); (case zhg => (intro _; k_extra "putl")); (case zhg3 => (intro _ _; k_extra "putl")); k_extra "c51"; (case zhz => kernel_rfl); (case zhs => kernel_rfl); (case zhn => kernel_rfl)))
  (k_with "amX" => ((with_reducible refine' Mine.Un3.intro ?zh1 ?zh2 ?_); k_extra "c31"))
  (k_with "amcall" => ((with_reducible refine' Mine.CallV.intT ?zhn ?zhl ?_); (case zhn => assumption); (case zhl => assumption)))
  (k_with "amcall" => ((with_reducible refine' Mine.CallV.listIL ?zho ?zhi ?zhz ?_); k_extra "c5"; (case zhz => omega); intro l' o' ho'))
  (k_with "amcall" => ((with_reducible refine' Mine.CallV.lenSL ?zho ?zhi ?zhz ?_); k_extra "c5"; (case zhz => k_extra "bnd")))
  (k_with "intl" => with_reducible first | exact Mine.IntL.nil | (refine' Mine.IntL.cons ?za; (case za => k_extra "intl")))
  (k_with "amX" => ((with_reducible refine' Mine.Sub.ilL ?zho ?zhi ?zhy ?zp0 ?zp1 ?zp2 ?_ ?zhs); k_extra "c5"; (case zhy => k_extra "intl"); k_extra "c6"; k_extra "c35"))
  (k_with "amcall" => ((with_reducible refine' Mine.CallV.cell ?zhS ?zh0 ?zhD ?_); (case zhS => assumption); (case zh0 => decide); (case zhD => decide)))
  (k_with "bnd" => first | with_reducible assumption | omega | decide)
  (k_with "amif" => ((with_reducible refine' Mine.IfB.decF ?zhp ?_); (case zhp => omega)))
  (k_with "amif" => ((with_reducible refine' Mine.IfB.decT ?zhp ?_); (case zhp => omega)))
  trivial
namespace Mine
variable {w : World}
theorem a_octet (tg pl : Int) (h0 : 0 ≤ tg) (h1 : tg < 16) {P : AV → Led → Prop} (h : ∀ x d o r rd ro nm, IsDict w o (opE r) → IsDict w ro (rgE nm (Str.ofString "gpr") tg 8) → P (.ref x) [(x, instObj 728 d), (d, o), (r, instObj 335 rd), (rd, ro)]) : CallsN w 956 [.int tg, .int pl] [] 5 P := by
  refine' CallsN.of_body (ns := [Str.ofString "target", Str.ofString "place"]) (ds := []) (dvs := []) 4 ?zho ?zhcd ?zhdv ?zhb ?zhloc ?zhco ?zhge ?zhki ?zhcell ?zhD ?_
  k_extra "enter"
  repeat' (first | k_extra "am" | fail "end")
  all_goals exact FinN.ret (h _ _ _ _ _ _ _ (by assumption) (by assumption)) (by k_extra "take")
end Mine
namespace Mine
variable {w : World}
theorem a_octetH (tg pl : Int) (h0 : 16 ≤ tg) (h1 : tg < 20) {P : AV → Led → Prop} (h : ∀ x d o r rd ro nm, IsDict w o (opE r) → IsDict w ro (rgE nm (Str.ofString "high") (tg - 12) 8) → P (.ref x) [(x, instObj 728 d), (d, o), (r, instObj 335 rd), (rd, ro)]) : CallsN w 956 [.int tg, .int pl] [] 5 P := by
  refine' CallsN.of_body (ns := [Str.ofString "target", Str.ofString "place"]) (ds := []) (dvs := []) 4 ?zho ?zhcd ?zhdv ?zhb ?zhloc ?zhco ?zhge ?zhki ?zhcell ?zhD ?_
  k_extra "enter"
  repeat' (first | k_extra "am" | fail "end")
  all_goals exact FinN.ret (h _ _ _ _ _ _ _ (by assumption) (by assumption)) (by k_extra "take")
end Mine
namespace Mine
variable {w : World}
theorem a_octetM (tg pl : Int) (h0 : 20 ≤ tg) {P : AV → Led → Prop} (h : ∀ x d o, IsDict w o (mmE pl) → P (.ref x) [(x, instObj 822 d), (d, o)]) : CallsN w 956 [.int tg, .int pl] [] 5 P := by
  refine' CallsN.of_body (ns := [Str.ofString "target", Str.ofString "place"]) (ds := []) (dvs := []) 4 ?zho ?zhcd ?zhdv ?zhb ?zhloc ?zhco ?zhge ?zhki ?zhcell ?zhD ?_
  k_extra "enter"
  repeat' (first | k_extra "am" | fail "end")
  all_goals exact FinN.ret (h _ _ _ (by assumption)) (by k_extra "take")
end Mine
theorem Mine.rowsM40_2 : True := by
  (k_with "amcall" => ((with_reducible refine' Mine.CallV.n (Mine.a_octet _ _ ?zp0 ?zp1 (fun x' d' o' r' rd' ro' nm' ho' hr' => ?_)) ?zhd Mine.Takes.nil); k_extra "c6"; (case zhd => decide)))
  (k_with "amcall" => ((with_reducible refine' Mine.CallV.n (Mine.a_octetH _ _ ?zp0 ?zp1 (fun x' d' o' r' rd' ro' nm' ho' hr' => ?_)) ?zhd Mine.Takes.nil); k_extra "c6"; (case zhd => decide)))
  (k_with "amcall" => ((with_reducible refine' Mine.CallV.n (Mine.a_octetM _ _ ?zp0 (fun x' d' o' ho' => ?_)) ?zhd Mine.Takes.nil); (case zp0 => k_extra "bnd"); (case zhd => decide)))
  trivial
namespace Mine
variable {w : World} {S : Scope} {D : Nat}
section r41
variable {c : Cx w S D} {l l1 : Locs} {led led1 : Led} {R : Out → Locs → Led → Prop} {test : PySem.Expr} {body orelse rest : List Stmt} {pos : Pos} {J : Locs → Led → Prop}
def NextJ (J : Locs → Led → Prop) : Out → Locs → Led → Prop := fun o l led => o = .next ∧ ∃ l1 led1, LocSub l1 l ∧ Takes led1 led ∧ J l1 led1
theorem NextJ.intro (h : J l1 led1) (h1 : LocSub l1 l) (h2 : Takes led1 led) : NextJ J .next l led := ⟨rfl, l1, led1, h1, h2, h⟩
theorem Run.ifsJ (J : Locs → Led → Prop) (h2 : ∀ l1 led1, J l1 led1 → Run c l1 led1 rest R) (h : Tr c l led test fun b led' => IfB b (Run c l led' body (NextJ J)) (Run c l led' orelse (NextJ J))) : Run c l led (.If test body orelse pos :: rest) R := by
  have key : ∀ o l' led', NextJ J o l' led' → Seq c rest R o l' led' := fun o l' led' hN => by
    obtain ⟨rfl, l1, led1, h3, h4, h5⟩ := hN
    exact Seq.next (Run.weak h3.spec h4 (h2 l1 led1 h5))
  refine Run.ifs fun s Q E hA hQ => h s Q E hA fun b led' h' tk' hP hA' => hQ b led' h' tk' ⟨fun e => Run.mono (hP.1 e) key, fun e => Run.mono (hP.2 e) key⟩ hA'
end r41
theorem two_le' {a b : Nat} (h : a ≤ b) : (2 : Int) ^ a ≤ 2 ^ b := by exact_mod_cast Nat.pow_le_pow_right (by decide) h
theorem near_sg' {x n1 : Int} (h1 : 1 ≤ n1) (hx0 : 0 ≤ x) (hx1 : x < 2 ^ n1.toNat) : Mine.sg x n1.toNat = nearF x n1 := by
  unfold Mine.sg nearF
  rw [Int.emod_eq_of_lt hx0 hx1, show n1.toNat - 1 = (n1 - 1).toNat by omega]
theorem wid_same {old x n1 n2 : Int} {c : Prop} [Decidable c] (h1 : 1 ≤ n1) (h12 : n1 < n2) (hx0 : 0 ≤ x) (hx1 : x < 2 ^ n1.toNat) : rset old (if c then Mine.sg x n1.toNat % 2 ^ n2.toNat else x) n2 = lsetF old (if c then nearF x n1 % 2 ^ n2.toNat else x) n2 := by
  have key : (if c then Mine.sg x n1.toNat % 2 ^ n2.toNat else x) % 2 ^ n2.toNat = (if c then nearF x n1 % 2 ^ n2.toNat else x) := by
    by_cases hc : c
    · rw [if_pos hc, if_pos hc, Int.emod_emod, near_sg' h1 hx0 hx1]
    · rw [if_neg hc, if_neg hc]
      exact Int.emod_eq_of_lt hx0 (Int.lt_of_lt_of_le hx1 (two_le' (by omega)))
  unfold rset lsetF
  rw [key]
end Mine
namespace Mine
variable {w : World}
theorem a_wideX (st sd rl xl fx mx sgm : Addr) (so lo : Obj) (rip : Int) (ns : List Int) (ix id tx : Addr) (io to : Obj) (nmx : Str) (o1 d1 r1 e1 : Addr) (oo1 ro1 : Obj) (nm1 : Str) (k1 n : Int) (o2 d2 r2 e2 : Addr) (oo2 ro2 : Obj) (nm2 : Str) (k2 z : Int)  (x y : Int) (hso : IsDict w so (stE rl xl fx mx sgm rip)) (hi : IsIL lo ns) (hl : ns.length = 16) (hio : IsDict w io (insE nmx tx)) (hto : IsTp to [.ref o1, .ref o2]) (ho1 : IsDict w oo1 (opE r1)) (hr1 : IsDict w ro1 (rgE nm1 (Str.ofString "gpr") k1 n)) (h10 : 0 ≤ k1) (h11 : k1 < 16) (hsz : n = 8 ∨ n = 16 ∨ n = 32 ∨ n = 64) (ho2 : IsDict w oo2 (opE r2)) (hr2 : IsDict w ro2 (rgE nm2 (Str.ofString "gpr") k2 z)) (h20 : 0 ≤ k2) (h21 : k2 < 16) (hsy : z = 8 ∨ z = 16 ∨ z = 32 ∨ z = 64) (hx : ns.getD k2.toNat 0 % 2 ^ z.toNat = x) (hy : (if (nmx != Str.ofString "movzx") = true then nearF x z % 2 ^ n.toNat else x) = y) (hz1 : 1 ≤ z) (hzn : z < n) {P : AV → Obj → Prop} (h : ∀ o', IsIL o' (ns.set k1.toNat (lsetF (ns.getD k1.toNat 0) y n)) → P .none o') : CallsT w 886 [.ref st, .ref ix] [(st, instObj 651 sd), (sd, so), (rl, lo), (ix, instObj 875 id), (id, io), (tx, to), (o1, instObj 728 d1), (d1, oo1), (r1, instObj 335 e1), (e1, ro1), (o2, instObj 728 d2), (d2, oo2), (r2, instObj 335 e2), (e2, ro2)] rl 8 P := by
  refine a_wide st sd rl xl fx mx sgm so lo rip ns ix id tx io to nmx o1 d1 r1 e1 oo1 ro1 nm1 k1 n o2 d2 r2 e2 oo2 ro2 nm2 k2 z hso hi hl hio hto ho1 hr1 h10 h11 hsz ho2 hr2 h20 h21 hsy fun o' ho' => h o' ?_
  have hb : 0 ≤ x ∧ x < 2 ^ (z).toNat := by rw [← hx]; exact ⟨Int.emod_nonneg _ (Int.ne_of_gt (p2pos _)), Int.emod_lt_of_pos _ (p2pos _)⟩
  rw [hx, wid_same hz1 hzn hb.1 hb.2, hy] at ho'
  exact ho'
end Mine
namespace Mine
variable {w : World}
theorem a_wideHX (st sd rl xl fx mx sgm : Addr) (so lo : Obj) (rip : Int) (ns : List Int) (ix id tx : Addr) (io to : Obj) (nmx : Str) (o1 d1 r1 e1 : Addr) (oo1 ro1 : Obj) (nm1 : Str) (k1 n : Int) (o2 d2 r2 e2 : Addr) (oo2 ro2 : Obj) (nm2 : Str) (k2 : Int)  (x y : Int) (hso : IsDict w so (stE rl xl fx mx sgm rip)) (hi : IsIL lo ns) (hl : ns.length = 16) (hio : IsDict w io (insE nmx tx)) (hto : IsTp to [.ref o1, .ref o2]) (ho1 : IsDict w oo1 (opE r1)) (hr1 : IsDict w ro1 (rgE nm1 (Str.ofString "gpr") k1 n)) (h10 : 0 ≤ k1) (h11 : k1 < 16) (hsz : n = 8 ∨ n = 16 ∨ n = 32 ∨ n = 64) (ho2 : IsDict w oo2 (opE r2)) (hr2 : IsDict w ro2 (rgE nm2 (Str.ofString "high") k2 8)) (h20 : 4 ≤ k2) (h21 : k2 < 8) (hx : ns.getD (k2 - 4).toNat 0 / 256 % 256 = x) (hy : (if (nmx != Str.ofString "movzx") = true then nearF x (8 : Int) % 2 ^ n.toNat else x) = y) (hzn : (8 : Int) < n) {P : AV → Obj → Prop} (h : ∀ o', IsIL o' (ns.set k1.toNat (lsetF (ns.getD k1.toNat 0) y n)) → P .none o') : CallsT w 886 [.ref st, .ref ix] [(st, instObj 651 sd), (sd, so), (rl, lo), (ix, instObj 875 id), (id, io), (tx, to), (o1, instObj 728 d1), (d1, oo1), (r1, instObj 335 e1), (e1, ro1), (o2, instObj 728 d2), (d2, oo2), (r2, instObj 335 e2), (e2, ro2)] rl 8 P := by
  refine a_wideH st sd rl xl fx mx sgm so lo rip ns ix id tx io to nmx o1 d1 r1 e1 oo1 ro1 nm1 k1 n o2 d2 r2 e2 oo2 ro2 nm2 k2 hso hi hl hio hto ho1 hr1 h10 h11 hsz ho2 hr2 h20 h21 fun o' ho' => h o' ?_
  have hb : 0 ≤ x ∧ x < 2 ^ ((8 : Int)).toNat := by rw [← hx]; exact ⟨Int.emod_nonneg _ (by decide), Int.emod_lt_of_pos _ (by decide)⟩
  rw [hx, wid_same (by decide) hzn hb.1 hb.2, hy] at ho'
  exact ho'
end Mine
namespace Mine
variable {w : World}
theorem a_wideK (st sd rl xl fx mx sgm : Addr) (so lo : Obj) (rip : Int) (ns : List Int) (ix id tx : Addr) (io to : Obj) (nmx : Str) (o1 d1 r1 e1 : Addr) (oo1 ro1 : Obj) (nm1 : Str) (k1 n : Int) (o2 d2 r2 e2 : Addr) (oo2 ro2 : Obj) (nm2 kd : Str) (k2 z : Int)  (x y : Int) (hso : IsDict w so (stE rl xl fx mx sgm rip)) (hi : IsIL lo ns) (hl : ns.length = 16) (hio : IsDict w io (insE nmx tx)) (hto : IsTp to [.ref o1, .ref o2]) (ho1 : IsDict w oo1 (opE r1)) (hr1 : IsDict w ro1 (rgE nm1 (Str.ofString "gpr") k1 n)) (h10 : 0 ≤ k1) (h11 : k1 < 16) (hsz : n = 8 ∨ n = 16 ∨ n = 32 ∨ n = 64) (ho2 : IsDict w oo2 (opE r2)) (hr2 : IsDict w ro2 (rgE nm2 kd k2 z)) (h20 : 0 ≤ k2) (h21 : k2 < 16) (hsy : z = 8 ∨ z = 16 ∨ z = 32 ∨ z = 64) (hkd : (kd = Str.ofString "gpr" ∧ ns.getD k2.toNat 0 % 2 ^ z.toNat = x) ∨ (kd = Str.ofString "high" ∧ 4 ≤ k2 ∧ k2 < 8 ∧ z = 8 ∧ ns.getD (k2 - 4).toNat 0 / 256 % 256 = x)) (hy : (if (nmx != Str.ofString "movzx") = true then nearF x z % 2 ^ n.toNat else x) = y) (hz1 : 1 ≤ z) (hzn : z < n) {P : AV → Obj → Prop} (h : ∀ o', IsIL o' (ns.set k1.toNat (lsetF (ns.getD k1.toNat 0) y n)) → P .none o') : CallsT w 886 [.ref st, .ref ix] [(st, instObj 651 sd), (sd, so), (rl, lo), (ix, instObj 875 id), (id, io), (tx, to), (o1, instObj 728 d1), (d1, oo1), (r1, instObj 335 e1), (e1, ro1), (o2, instObj 728 d2), (d2, oo2), (r2, instObj 335 e2), (e2, ro2)] rl 8 P := by
  rcases hkd with ⟨rfl, hx⟩ | ⟨rfl, h4, h8, rfl, hx⟩
  · exact a_wideX st sd rl xl fx mx sgm so lo rip ns ix id tx io to nmx o1 d1 r1 e1 oo1 ro1 nm1 k1 n o2 d2 r2 e2 oo2 ro2 nm2 k2 z x y hso hi hl hio hto ho1 hr1 h10 h11 hsz ho2 hr2 h20 h21 hsy hx hy hz1 hzn h
  · exact a_wideHX st sd rl xl fx mx sgm so lo rip ns ix id tx io to nmx o1 d1 r1 e1 oo1 ro1 nm1 k1 n o2 d2 r2 e2 oo2 ro2 nm2 k2 x y hso hi hl hio hto ho1 hr1 h10 h11 hsz ho2 hr2 h4 h8 hx hy hzn h
end Mine
theorem Mine.rowsM41_1 : True := by
  (k_with "amcall" => ((with_reducible refine' Mine.CallV.t (Mine.a_wideK _ _ _ _ _ _ _ _ _ _ _ _ _ _ _ _ _ _ _ _ _ _ _ _ _ _ _ _ _ _ _ _ _ _ _ _ _ _ ?zp0 ?zp1 ?zp2 ?zp3 ?zp4 ?zp5 ?zp6 ?zp7 ?zp8 ?zp9 ?zp10 ?zp11 ?zp12 ?zp13 ?zp14 ?zp15 ?zp16 ?zp17 ?zp18 (fun o' ho' => ?_)) ?zhd (Mine.Takes.cons ?zt1 (Mine.Takes.cons ?zt2 (Mine.Takes.cons ?zt3 (Mine.Takes.cons ?zt4 (Mine.Takes.cons ?zt5 (Mine.Takes.cons ?zt6 (Mine.Takes.cons ?zt7 (Mine.Takes.cons ?zt8 (Mine.Takes.cons ?zt9 (Mine.Takes.cons ?zt10 (Mine.Takes.cons ?zt11 (Mine.Takes.cons ?zt12 (Mine.Takes.cons ?zt13 (Mine.Takes.cons ?zt14 Mine.Takes.nil)))))))))))))) ?zhU); k_extra "c0"; k_extra "c4"; (case zp2 => assumption); k_extra "c47"; (case zp9 => first | assumption | decide); (case zp12 => k_extra "bnd"); (case zp13 => k_extra "bnd"); (case zp14 => first | assumption | decide); (case zp15 => assumption); (case zp16 => assumption); (case zp17 => k_extra "bnd"); (case zp18 => k_extra "bnd"); (case zhd => decide)))
  trivial
namespace Mine
variable {w : World}
section r42
variable {S : Scope} {D : Nat} {c : Cx w S D} {l : Locs} {led : Led} {P : AV → Led → Prop} {a b : Addr} {o o2 : Obj} {ns ms : List Int} {v1 v2 : List AV}
theorem Cmp.eqTpL (hD : 8 ≤ D) (h1 : (a, o) ∈ led) (i1 : IsTp o v1) (y1 : IntL v1 ns) (h2 : (b, o2) ∈ led) (i2 : IsTp o2 v2) (y2 : IntL v2 ms) (h : P (.bool (decide (ns = ms))) led) : Cmp c l .Eq (.ref a) (.ref b) led P := Cmp.eqTp hD h1 (y1.eq ▸ i1) h2 (y2.eq ▸ i2) h
end r42
end Mine
theorem Mine.rowsM42_1 : True := by
  (k_with "amcmp" => ((with_reducible first | (refine' Mine.Cmp.eqRows ?zhD ?zh1 ?zi1 ?zt1 ?zh2 ?zi2 ?zt2 (Mine.BoolV.intro ?_)) | (refine' Mine.Cmp.eqRows ?zhD ?zh1 ?zi1 ?zt1 ?zh2 ?zi2 ?zt2 ?_)); k_extra "c33"))
  (k_with "amcmp" => ((with_reducible first | (refine' Mine.Cmp.neRows ?zhD ?zh1 ?zi1 ?zt1 ?zh2 ?zi2 ?zt2 (Mine.BoolV.intro ?_)) | (refine' Mine.Cmp.neRows ?zhD ?zh1 ?zi1 ?zt1 ?zh2 ?zi2 ?zt2 ?_)); k_extra "c33"))
  (k_with "amcmp" => ((with_reducible first | (refine' Mine.Cmp.eqTpL ?zhD ?zh1 ?zi1 ?zy1 ?zh2 ?zi2 ?zy2 (Mine.BoolV.intro ?_)) | (refine' Mine.Cmp.eqTpL ?zhD ?zh1 ?zi1 ?zy1 ?zh2 ?zi2 ?zy2 ?_)); (case zhD => decide); (case zh1 => k_mem); (case zi1 => assumption); (case zy1 => k_extra "intl"); (case zh2 => k_mem); (case zi2 => assumption); (case zy2 => k_extra "intl")))
  (k_with "amcmp" => ((with_reducible first | (refine' Mine.Cmp.eqIL ?zhD ?zh1 ?zi1 ?zh2 ?zi2 (Mine.BoolV.intro ?_)) | (refine' Mine.Cmp.eqIL ?zhD ?zh1 ?zi1 ?zh2 ?zi2 ?_)); (case zhD => decide); k_extra "c13"))
  (k_with "amcmp" => ((with_reducible first | (refine' Mine.Cmp.neIL ?zhD ?zh1 ?zi1 ?zh2 ?zi2 (Mine.BoolV.intro ?_)) | (refine' Mine.Cmp.neIL ?zhD ?zh1 ?zi1 ?zh2 ?zi2 ?_)); (case zhD => decide); k_extra "c13"))
  (k_with "tupl" => first | exact Mine.TupL.nil | (refine' Mine.TupL.cons ?za ?zb ?zc; (case za => k_mem); (case zb => assumption); (case zc => k_extra "tupl")))
  (k_with "split" => first | exact Mine.wrows_eq | assumption)
  (k_with "amcall" => ((with_reducible refine' Mine.CallV.split1 ?zhy ?zhz ?zhe ?_); (case zhe => with_reducible assumption); (case zhy => kernel_rfl); (case zhz => with_reducible assumption); intro l' o' ho'))
  (k_with "amcall" => ((with_reducible refine' Mine.CallV.clsG (C := 875) (fI := 839) (sub := [(_, _)]) (d := 2) ?zk1 ?zk2 ?zk3 ?zhd ?zhT fun x' dx' => Mine.a_initIns _ _ _ _ _ _ ?zp0 ?zp1 fun t' to' o' ht' hi' => Mine.NnV.intro ?_); k_extra "c43"; (case zp0 => assumption); (case zp1 => exact rfl)))
  (k_with "amif" => ((with_reducible refine' Mine.IfB.decT ?zhp ?_); (case zhp => with_reducible first | exact rfl | assumption)))
  trivial
namespace Mine
variable {w : World}
theorem wx_b (a n : Int) (h : n = 8 ∨ n = 16 ∨ n = 32 ∨ n = 64) : 0 ≤ a % 2 ^ n.toNat ∧ a % 2 ^ n.toNat < 2 ^ 64 := mod_b h
theorem wh_b (a : Int) : 0 ≤ a.fdiv 256 % 256 ∧ a.fdiv 256 % 256 < 2 ^ 64 := ⟨Int.emod_nonneg _ (by decide), Int.lt_trans (Int.emod_lt_of_pos _ (by decide)) (by decide)⟩
theorem a_widened (sl wl : Addr) (wo : Obj) (W ns : List Int) (hwo : IsIL wo W) (hW : W.length = 16) {P : AV → Led → Prop} (h : P (.bool true) []) : CallsGB w (fun b => Scr b sl ns) 963 [.ref sl, .ref wl] [(wl, wo)] 14 P := by
  obtain ⟨x1, x2, x3, n1, n2, f0, f1, f2, f3, f4, f5, f6, f7⟩ := wrow_facts (j := (cellAt ns 1 0 % 11).toNat) (by omega)
  have g0 : 0 ≤ cellAt ns 1 0 % 11 := by omega
  have g1 : cellAt ns 1 0 % 11 < (wrowsL.length : Int) := by show cellAt ns 1 0 % 11 < 11; omega
  have g2 : (wrowsL.getD (cellAt ns 1 0 % 11).toNat Str.empty).length + 2 ≤ sizeLine := wrow_len (by omega)
  have g3 : n1 = 8 ∨ n1 = 16 ∨ n1 = 32 ∨ n1 = 64 := by omega
  have g4 : n2 = 8 ∨ n2 = 16 ∨ n2 = 32 ∨ n2 = 64 := by omega
  have f0' : Txt.split (wrowsL.getD (cellAt ns 1 0 % 11).toNat Str.empty) (Str.ofString ":") = [x1, x2, x3] := f0
  have b1 : 1 ≤ n1 := by omega
  have b2 : n1 ≤ 64 := by omega
  have b3 : n2 ≤ 64 := by omega
  have b4 : 0 ≤ n1 := by omega
  have b5 : 0 ≤ n2 := by omega
  have b6 : 1 ≤ n2 := by omega
  refine' CallsGB.of_body (ns := [Str.ofString "script", Str.ofString "worths"]) (ds := []) (dvs := []) 13 ?zho ?zhcd ?zhdv ?zhb ?zhloc ?zhco ?zhge ?zhki ?zhcell ?zhD ?_
  k_extra "enter"
  intro hS
  repeat' ((fail_if_success (with_reducible show Mine.Run _ _ _ (PySem.Stmt.If _ _ _ _ :: _) _)); first | k_extra "am" | fail "end")
  refine' Run.ifsJ (fun l1 led1 => ∃ (gx gd rx rd : Addr) (go ro : Obj) (x : Int), l1 = [(Str.ofString "giver", .ref gx), (Str.ofString "worth", .int x), (Str.ofString "to", .int (cellAt ns 7 0 % 16)), (Str.ofString "source", .int (cellAt ns 8 0 % 16)), (Str.ofString "wide", .int n2), (Str.ofString "low", .int n1), (Str.ofString "name", .str x1), (Str.ofString "worths", .ref wl), (Str.ofString "script", .ref sl)] ∧ led1 = [(gx, instObj 728 gd), (gd, go), (rx, instObj 335 rd), (rd, ro), (wl, wo)] ∧ IsDict w go (opE rx) ∧ 0 ≤ x ∧ x < 2 ^ 64 ∧ ∃ nm kd, IsDict w ro (rgE nm kd (cellAt ns 8 0 % 16) n1) ∧ ((kd = Str.ofString "gpr" ∧ W.getD (cellAt ns 8 0 % 16).toNat 0 % 2 ^ n1.toNat = x) ∨ (kd = Str.ofString "high" ∧ 4 ≤ cellAt ns 8 0 % 16 ∧ cellAt ns 8 0 % 16 < 8 ∧ n1 = 8 ∧ W.getD (cellAt ns 8 0 % 16 - 4).toNat 0 / 256 % 256 = x))) ?zrest ?_
  case zrest =>
    rintro _ _ ⟨gx, gd, rx, rd, go, ro, x, rfl, rfl, hgo, hx0, hx1, nm, kd, hro, hkd⟩
    refine' Run.ifsJ (fun l1 led1 => ∃ (y : Int), l1 = [(Str.ofString "giver", .ref gx), (Str.ofString "worth", .int y), (Str.ofString "to", .int (cellAt ns 7 0 % 16)), (Str.ofString "source", .int (cellAt ns 8 0 % 16)), (Str.ofString "wide", .int n2), (Str.ofString "low", .int n1), (Str.ofString "name", .str x1), (Str.ofString "worths", .ref wl), (Str.ofString "script", .ref sl)] ∧ led1 = [(gx, instObj 728 gd), (gd, go), (rx, instObj 335 rd), (rd, ro), (wl, wo)] ∧ (if (x1 != Str.ofString "movzx") = true then nearF x n1 % 2 ^ n2.toNat else x) = y) ?zrest ?_
    case zrest =>
      rintro _ _ ⟨y, rfl, rfl, hy⟩
      repeat' (first | k_extra "am" | fail "end")
      all_goals exact FinG.ret h Takes.nil
    repeat' (first | k_extra "am" | fail "end")
    all_goals exact NextJ.intro ⟨_, rfl, rfl, by first | exact if_pos (by assumption) | exact if_pos (bne_iff_ne.mpr (by assumption)) | exact if_neg (by simpa using ‹_›)⟩ (by k_extra "locsub") (by k_extra "take")
  repeat' (first | k_extra "am" | fail "end")
  all_goals first
    | (refine' NextJ.intro ⟨_, _, _, _, _, _, _, rfl, rfl, ?zgo, (wx_b _ _ g3).1, (wx_b _ _ g3).2, _, _, ?zro, .inl ⟨rfl, rfl⟩⟩ ?zls ?ztk; (case zls => k_extra "locsub"); (case ztk => k_extra "take"); (case zgo => assumption); (case zro => assumption))
    | (refine' NextJ.intro ⟨_, _, _, _, _, _, _, rfl, rfl, ?zgo, (wh_b _).1, (wh_b _).2, _, _, ?zro, .inr ⟨rfl, ?za1, ?za2, ?za3, ?za4⟩⟩ ?zls ?ztk; (case zls => k_extra "locsub"); (case za4 => rw [Int.fdiv_eq_ediv_of_nonneg _ (by decide)]); (case za1 => assumption); (case za2 => assumption); (case za3 => assumption); (case zgo => assumption); (case zro => rw [show n1 = 8 by assumption]; assumption); (case ztk => k_extra "take"))
end Mine
namespace Mine
theorem and_half (x y : Int) : Builtin.bitAnd x y / 2 = Builtin.bitAnd (x / 2) (y / 2) ∧ Builtin.bitAnd x y % 2 = (x % 2) * (y % 2) := by
  have h := kbt_halves x y
  have h1 : x % 2 = 0 ∨ x % 2 = 1 := by omega
  have h2 : y % 2 = 0 ∨ y % 2 = 1 := by omega
  generalize Builtin.bitAnd (x / 2) (y / 2) = z at *
  rcases h1 with h1 | h1 <;> rcases h2 with h2 | h2 <;> rw [h1, h2] at h ⊢ <;> simp at h <;> omega
theorem and_bit (k : Nat) : ∀ x y : Int, Builtin.bitAnd x y / 2 ^ k % 2 = (x / 2 ^ k % 2) * (y / 2 ^ k % 2) := by
  induction k with
  | zero => intro x y; simpa using (and_half x y).2
  | succ k ih =>
    intro x y
    have e : ∀ z : Int, z / 2 ^ (k + 1) = z / 2 / 2 ^ k := fun z => by
      rw [Int.pow_succ, Int.mul_comm, Int.ediv_ediv_of_nonneg (by decide)]
    rw [e, e, e, (and_half x y).1, ih]
theorem xor_half (x y : Int) : Builtin.bitXor x y / 2 = Builtin.bitXor (x / 2) (y / 2) ∧ Builtin.bitXor x y % 2 = (x % 2 + y % 2) % 2 := by
  have h := kbt_halves x y
  rw [bitXor_and, bitXor_and]
  have h1 : x % 2 = 0 ∨ x % 2 = 1 := by omega
  have h2 : y % 2 = 0 ∨ y % 2 = 1 := by omega
  generalize Builtin.bitAnd (x / 2) (y / 2) = z at *
  generalize Builtin.bitAnd x y = t at *
  rcases h1 with h1 | h1 <;> rcases h2 with h2 | h2 <;> rw [h1, h2] at h ⊢ <;> simp at h <;> omega
theorem xor_bit (k : Nat) : ∀ x y : Int, Builtin.bitXor x y / 2 ^ k % 2 = (x / 2 ^ k % 2 + y / 2 ^ k % 2) % 2 := by
  induction k with
  | zero => intro x y; simpa using (xor_half x y).2
  | succ k ih =>
    intro x y
    have e : ∀ z : Int, z / 2 ^ (k + 1) = z / 2 / 2 ^ k := fun z => by
      rw [Int.pow_succ, Int.mul_comm, Int.ediv_ediv_of_nonneg (by decide)]
    rw [e, e, e, (xor_half x y).1, ih]
theorem top_bit {x P : Int} (hP : 0 < P) (h0 : 0 ≤ x) (h1 : x < 2 * P) : x / P % 2 = if x < P then 0 else 1 := by
  by_cases h : x < P
  · rw [if_pos h, Int.ediv_eq_zero_of_lt h0 h]; rfl
  · rw [if_neg h]
    have e : x / P = 1 := by
      have a1 := Int.mul_ediv_add_emod x P
      have a2 := Int.emod_nonneg x (show P ≠ 0 by omega)
      have a3 := Int.emod_lt_of_pos x hP
      have a4 : x / P < 2 := Int.ediv_lt_of_lt_mul hP (by omega)
      have a5 : 1 ≤ x / P := Int.le_ediv_of_mul_le hP (by omega)
      omega
    rw [e]; rfl
theorem sub_mod {A B M : Int} (hA0 : 0 ≤ A) (hA : A < M) (hB0 : 0 ≤ B) (hB : B < M) : (A - B) % M = if B ≤ A then A - B else A - B + M := by
  by_cases h : B ≤ A
  · rw [if_pos h, Int.emod_eq_of_lt (by omega) (by omega)]
  · rw [if_neg h, ← Int.add_emod_right, Int.emod_eq_of_lt (by omega) (by omega)]
theorem popc_cnt (D : Int) : popc (D % 256) = cntF D := by
  unfold popc cntF
  have f : ∀ (z : Int) (k : Nat), (z.fdiv (2 ^ k)).fmod 2 = z / 2 ^ k % 2 := fun z k => by
    rw [Int.fdiv_eq_ediv_of_nonneg _ (Int.le_of_lt (two_pos k)), Int.fmod_eq_emod_of_nonneg _ (by decide)]
  rw [f, f, f, f, f, f, f, f]
  simp only [show ((0 : Nat) : Int).toNat = 0 from rfl, show ((0 + 1 : Nat) : Int).toNat = 1 from rfl, show ((0 + 1 + 1 : Nat) : Int).toNat = 2 from rfl, show ((0 + 1 + 1 + 1 : Nat) : Int).toNat = 3 from rfl, show ((0 + 1 + 1 + 1 + 1 : Nat) : Int).toNat = 4 from rfl, show ((0 + 1 + 1 + 1 + 1 + 1 : Nat) : Int).toNat = 5 from rfl, show ((0 + 1 + 1 + 1 + 1 + 1 + 1 : Nat) : Int).toNat = 6 from rfl, show ((0 + 1 + 1 + 1 + 1 + 1 + 1 + 1 : Nat) : Int).toNat = 7 from rfl]
  omega
end Mine
namespace Mine
theorem bool_iff {a b : Bool} (h : a = true ↔ b = true) : a = b := by cases a <;> cases b <;> simp_all
structure Eight (c p z s f A B P lf rt D : Int) : Prop where
  t0 : (f == 1) = !(decide (-P ≤ lf - rt) && decide (lf - rt < P))
  t1 : (c == 1) = decide (A < B)
  t2 : (z == 1) = (A == B)
  t3 : (c == 1 || z == 1) = decide (A ≤ B)
  t4 : (s == 1) = decide (P ≤ D)
  t5 : (p == 1) = ((cntF D).fmod 2 == 0)
  t6 : (s != f) = decide (lf < rt)
  t7 : (z == 1 || s != f) = decide (lf ≤ rt)
theorem eight_of {c p z s f A B P lf rt D : Int} (hP : 0 < P) (hA0 : 0 ≤ A) (hA : A < 2 * P) (hB0 : 0 ≤ B) (hB : B < 2 * P)
    (hD : D = if B ≤ A then A - B else A - B + 2 * P) (hlf : lf = if A < P then A else A - 2 * P) (hrt : rt = if B < P then B else B - 2 * P)
    (hc : c = if A - B < 0 then 1 else 0) (hp : p = 1 - cntF D % 2) (hz : z = if D = 0 then 1 else 0) (hs : s = if D < P then 0 else 1)
    (hf : f = (((if A < P then 0 else 1) + (if B < P then 0 else 1)) % 2) * (((if A < P then 0 else 1) + (if D < P then 0 else 1)) % 2)) : Eight c p z s f A B P lf rt D := by
  have q5 : (p == 1) = ((cntF D).fmod 2 == 0) := by
    rw [Int.fmod_eq_emod_of_nonneg _ (by decide), hp]
    apply bool_iff
    rw [beq_iff_eq, beq_iff_eq]
    omega
  clear hp
  by_cases a1 : A < P <;> by_cases b1 : B < P <;> by_cases c1 : B ≤ A <;> by_cases d1 : D < P <;> by_cases z1 : D = 0 <;>
    simp only [a1, b1, c1, d1, z1, if_true, if_false] at hD hlf hrt hz hs hf <;>
    (by_cases e1 : A - B < 0 <;> simp only [e1, if_true, if_false] at hc <;>
      first
        | (exfalso; omega)
        | (subst hlf hrt hc hz hs; simp at hf; subst hf; refine ⟨?_, ?_, ?_, ?_, ?_, q5, ?_, ?_⟩ <;> apply bool_iff <;> simp <;> omega))
theorem flags_truth {A B n k : Int} (h1 : 1 ≤ n) (hA0 : 0 ≤ A) (hA : A < 2 ^ n.toNat) (hB0 : 0 ≤ B) (hB : B < 2 ^ n.toNat) (hk0 : 0 ≤ k) (hk1 : k < 16) {lf rt : Int}
    (hlf : (if A < 2 ^ (n - 1).toNat then A else A - 2 ^ n.toNat) = lf) (hrt : (if B < 2 ^ (n - 1).toNat then B else B - 2 ^ n.toNat) = rt) :
    hn (if A - B < 0 then 1 else 0) (1 - popc ((A - B) % 2 ^ n.toNat % 256) % 2) (if (A - B) % 2 ^ n.toNat = 0 then 1 else 0) ((A - B) % 2 ^ n.toNat / 2 ^ (n - 1).toNat % 2) (Builtin.bitAnd (Builtin.bitXor A B) (Builtin.bitXor A ((A - B) % 2 ^ n.toNat)) / 2 ^ (n - 1).toNat % 2) k =
      truV (decide (-2 ^ (n - 1).toNat ≤ lf - rt) && decide (lf - rt < 2 ^ (n - 1).toNat)) A B (2 ^ (n - 1).toNat) lf rt ((A - B) % 2 ^ n.toNat) k := by
  have hM : (2 : Int) ^ n.toNat = 2 * 2 ^ (n - 1).toNat := by
    rw [show n.toNat = (n - 1).toNat + 1 by omega, Int.pow_succ, Int.mul_comm]
  have hP := two_pos (n - 1).toNat
  have hD0 := Int.emod_nonneg (A - B) (show (2 : Int) ^ n.toNat ≠ 0 by omega)
  have hD1 := Int.emod_lt_of_pos (A - B) (show (0 : Int) < 2 ^ n.toNat by omega)
  rw [and_bit, xor_bit, xor_bit, popc_cnt, top_bit hP hA0 (by omega), top_bit hP hB0 (by omega), top_bit hP hD0 (by omega)]
  have hDe := sub_mod hA0 hA hB0 hB
  rw [hM] at hDe hlf hrt ⊢
  generalize (2 : Int) ^ (n - 1).toNat = P at *
  have E := eight_of (c := if A - B < 0 then 1 else 0) (p := 1 - cntF ((A - B) % (2 * P)) % 2) (z := if (A - B) % (2 * P) = 0 then 1 else 0) (s := if (A - B) % (2 * P) < P then 0 else 1) (f := (((if A < P then 0 else 1) + (if B < P then 0 else 1)) % 2) * (((if A < P then 0 else 1) + (if (A - B) % (2 * P) < P then 0 else 1)) % 2)) hP hA0 (by omega) hB0 (by omega) hDe hlf.symm hrt.symm rfl rfl rfl rfl rfl
  generalize (if A - B < 0 then (1 : Int) else 0) = c at *
  generalize (1 - cntF ((A - B) % (2 * P)) % 2) = p at *
  generalize (if (A - B) % (2 * P) = 0 then (1 : Int) else 0) = z at *
  generalize ((((if A < P then (0 : Int) else 1) + (if B < P then 0 else 1)) % 2) * (((if A < P then 0 else 1) + (if (A - B) % (2 * P) < P then 0 else 1)) % 2)) = f at *
  generalize (if (A - B) % (2 * P) < P then (0 : Int) else 1) = s at *
  have hT : ∀ j : Int, 0 ≤ j → j < 8 → hnT c p z s f j = [!(decide (-P ≤ lf - rt) && decide (lf - rt < P)), decide (A < B), A == B, decide (A ≤ B), decide (P ≤ (A - B) % (2 * P)), (cntF ((A - B) % (2 * P))).fmod 2 == 0, decide (lf < rt), decide (lf ≤ rt)].getD j.toNat false := fun j j0 j8 => by
    rcases (by omega : j = 0 ∨ j = 1 ∨ j = 2 ∨ j = 3 ∨ j = 4 ∨ j = 5 ∨ j = 6 ∨ j = 7) with rfl | rfl | rfl | rfl | rfl | rfl | rfl | rfl
    · exact E.t0
    · exact E.t1
    · exact E.t2
    · exact E.t3
    · exact E.t4
    · exact E.t5
    · exact E.t6
    · exact E.t7
  unfold hn truV
  rw [Int.fmod_eq_emod_of_nonneg _ (by decide), Int.fdiv_eq_ediv_of_nonneg _ (by decide), hT (k / 2) (by omega) (by omega)]
end Mine
namespace Mine
noncomputable abbrev lawB : List Stmt := by refine (?zf : ((st 94 = some (Stmt.FunctionDef ?zn ?za ?zb ?zd ?zr ?zt ?zs ?zu ?zv ?zp))) → List Stmt) ?zh; (case zh => with_unfolding_all rfl); (case zf => exact fun _ => ?zb)
noncomputable abbrev lawS : Scope := by refine (?zf : ((st 94 = some (Stmt.FunctionDef ?zn ?za ?zb ?zd ?zr ?zt ?zs ?zu ?zv ?zp))) → Scope) ?zh; (case zh => with_unfolding_all rfl); (case zf => exact fun _ => ?zs)
noncomputable abbrev lawN : Str := by refine (?zf : ((st 94 = some (Stmt.FunctionDef ?zn ?za ?zb ?zd ?zr ?zt ?zs ?zu ?zv ?zp))) → Str) ?zh; (case zh => with_unfolding_all rfl); (case zf => exact fun _ => ?zn)
noncomputable abbrev lawR6 : List Stmt := by refine (?zf : (lawB = ?za0 :: ?za1 :: ?za2 :: ?za3 :: ?za4 :: ?za5 :: ?zrest) → List Stmt) ?zh; (case zh => with_unfolding_all rfl); (case zf => exact fun _ => ?zrest)
noncomputable abbrev lawR10 : List Stmt := by refine (?zf : (lawB = ?za0 :: ?za1 :: ?za2 :: ?za3 :: ?za4 :: ?za5 :: ?za6 :: ?za7 :: ?za8 :: ?za9 :: ?zrest) → List Stmt) ?zh; (case zh => with_unfolding_all rfl); (case zf => exact fun _ => ?zrest)
noncomputable abbrev lawR16 : List Stmt := by refine (?zf : (lawB = ?za0 :: ?za1 :: ?za2 :: ?za3 :: ?za4 :: ?za5 :: ?za6 :: ?za7 :: ?za8 :: ?za9 :: ?za10 :: ?za11 :: ?za12 :: ?za13 :: ?za14 :: ?za15 :: ?zrest) → List Stmt) ?zh; (case zh => with_unfolding_all rfl); (case zf => exact fun _ => ?zrest)
noncomputable abbrev lawR22 : List Stmt := by refine (?zf : (lawB = ?za0 :: ?za1 :: ?za2 :: ?za3 :: ?za4 :: ?za5 :: ?za6 :: ?za7 :: ?za8 :: ?za9 :: ?za10 :: ?za11 :: ?za12 :: ?za13 :: ?za14 :: ?za15 :: ?za16 :: ?za17 :: ?za18 :: ?za19 :: ?za20 :: ?za21 :: ?zrest) → List Stmt) ?zh; (case zh => with_unfolding_all rfl); (case zf => exact fun _ => ?zrest)
noncomputable abbrev lawR28 : List Stmt := by refine (?zf : (lawB = ?za0 :: ?za1 :: ?za2 :: ?za3 :: ?za4 :: ?za5 :: ?za6 :: ?za7 :: ?za8 :: ?za9 :: ?za10 :: ?za11 :: ?za12 :: ?za13 :: ?za14 :: ?za15 :: ?za16 :: ?za17 :: ?za18 :: ?za19 :: ?za20 :: ?za21 :: ?za22 :: ?za23 :: ?za24 :: ?za25 :: ?za26 :: ?za27 :: ?zrest) → List Stmt) ?zh; (case zh => with_unfolding_all rfl); (case zf => exact fun _ => ?zrest)
end Mine
namespace Mine
variable {w : World}
theorem cl_script {S : Scope} {D : Nat} {c : Cx w S D} {cs ct : Addr} (h : c.cl = [(Str.ofString "top", ct), (Str.ofString "script", cs)]) : c.cl.lookup (Str.ofString "script") = some cs := by rw [h]; rfl
theorem cl_top {S : Scope} {D : Nat} {c : Cx w S D} {cs ct : Addr} (h : c.cl = [(Str.ofString "top", ct), (Str.ofString "script", cs)]) : c.cl.lookup (Str.ofString "top") = some ct := by rw [h]; rfl
theorem cl_look {S : Scope} {D : Nat} {c : Cx w S D} {l' : List (Str × Addr)} {x : Str} {a : Addr} (h : c.cl = l') (h2 : l'.lookup x = some a) : c.cl.lookup x = some a := by rw [h]; exact h2
theorem TupL.cons' {led : Led} {a : Addr} {o : Obj} {k k' v : Int} {r : List (Int × Int)} {ys : List AV} (h1 : (a, o) ∈ led) (h2 : IsTp o [.int k', .int v]) (e : k' = k) (h3 : TupL led r ys) : TupL led ((k, v) :: r) (.ref a :: ys) := by subst e; exact .cons h1 h2 h3
structure LawC (c : Cx w lawS 20) (cs ct : Addr) (co cto : Obj) (sl : Addr) (ns : List Int) : Prop where
  cl : c.cl = [(Str.ofString "top", ct), (Str.ofString "script", cs)]
  co : co.data = .cell (some (.ref sl))
  ct : ∃ t, cto.data = .cell (some (.int (2 ^ (64 : Int).toNat) t))
  hS : Scr c.base sl ns
theorem tr_dec {p : Prop} [Decidable p] (h : p) : (Out.ret (.bool (decide p))) = .ret (.bool true) := by rw [decide_eq_true h]
abbrev TrueR : Out → Locs → Led → Prop := fun o _ _ => o = .ret (.bool true)
theorem Run.into {S : Scope} {D : Nat} {c : Cx w S D} {l l1 : Locs} {led led1 : Led} {ss : List Stmt} {R : Out → Locs → Led → Prop} (h : Run c l1 led1 ss R) (h1 : LocSub l1 l) (h2 : Takes led1 led) : Run c l led ss R := Run.weak h1.spec h2 h
end Mine
theorem Mine.rowsM44_1 : True := by
  (k_with "amif" => ((with_reducible refine' Mine.IfB.pos ?zhp ?_); (case zhp => with_reducible exact beq_self_eq_true _)))
  (k_with "amEv" => ((with_reducible refine' Mine.Ev.cellR ?zhc ?zhm ?zhd ?zhx ?zhb ?_); k_extra "c29"))
  (k_with "amEv" => ((with_reducible refine' Mine.Ev.cellI ?zhc ?zhm ?zhd ?zhx ?zhb ?_); k_extra "c29"))
  (k_with "tupl" => (refine' Mine.TupL.cons' ?za ?zb ?ze ?zc; (case za => k_mem); (case zb => assumption); (case ze => omega); (case zc => k_extra "tupl")))
  (k_with "tupl" => first | exact Mine.TupL.nil | (refine' Mine.TupL.cons ?za ?zb ?zc; (case za => k_mem); (case zb => with_reducible assumption); (case zc => k_extra "tupl")))
  trivial
namespace Mine
variable {w : World}
theorem law_t3 {c : Cx w lawS 20} {cs ct : Addr} {co cto : Obj} {sl : Addr} {ns : List Int} (hC : LawC c cs ct co cto sl ns) (st sd rl xl fx mx sg fd md hd wl tl : Addr) (so lo fo mo ho wo to : Obj) (W : List Int) (a oc go c_ p_ a_ z_ sf f_ : Int) (hoc : oc ≠ 0) (hso : IsDict w so (stE rl xl fx mx sg go)) (hlo : IsIL lo W) (hwo : IsIL wo W) (hfo : IsDict w fo (flE c_ p_ a_ z_ sf f_ 0)) (hto : IsTp to [.int c_, .int p_, .int a_, .int z_, .int sf, .int f_, .int 0]) (hmo : IsDict w mo (meE hd)) (hho : IsHd w ho [(a, 7), (a + 1, oc), (a + 2, 11)]) (hhd : (hd == sysModules) = false) :
    Run c [(Str.ofString "did", .bool true), (Str.ofString "spot", .int (a + 1)), (Str.ofString "octet", .int oc), (Str.ofString "goal", .int go), (Str.ofString "state", .ref st), (Str.ofString "worths", .ref wl), (Str.ofString "flags", .ref tl)] [(tl, to), (wl, wo), (st, instObj 651 sd), (sd, so), (rl, lo), (fx, instObj 202 fd), (fd, fo), (mx, instObj 534 md), (md, mo), (hd, ho), (ct, cto), (cs, co)] lawR28 TrueR := by
  obtain ⟨hcl, hco, hct, hS⟩ := hC
  repeat' (first | k_extra "am" | fail "end")
  refine' Ev.compL (cl := []) ?zqa ?zqb ?zqc ?zqd ?zqe ?zqf ?zqg ?zqh ?zqi ?zqj ?zqk ?zql ?_
  (case zqa => with_unfolding_all rfl)
  (case zqb => decide +kernel)
  (case zqc => kernel_rfl)
  (case zqd => decide +kernel)
  (case zqe => kernel_rfl)
  (case zqf => intro _; kernel_rfl)
  (case zqg => k_extra "lk")
  (case zqh => kernel_rfl)
  (case zqi => kernel_rfl)
  (case zqj => k_mem)
  (case zqk => assumption)
  (case zql => exact Nat.le_of_ble_eq_true rfl)
  refine' ForC.kept (Dl := [(a + 1 - 1, 7), (a + 1, oc), (a + 1 + 1, 11)]) ?zw1 ?zw2 ?zw3 ?zw4 _ _ ?zw5 ?_
  (case zw1 => intro _; exact rfl)
  (case zw2 => intro _; kernel_rfl)
  (case zw3 => kernel_rfl)
  (case zw4 => intro _ _; kernel_rfl)
  (case zw5 => k_extra "tupl")
  refine ⟨fun e => absurd e (show ¬ (7 : Int) = 0 by decide), fun _ => ⟨fun e => absurd e hoc, fun _ => ⟨fun e => absurd e (show ¬ (11 : Int) = 0 by decide), fun _ => ?_⟩⟩⟩
  intro lx' lo' il
  simp only [List.nil_append, List.cons_append] at il
  repeat' (first | k_extra "am" | fail "end")
  all_goals first | exact rfl | exact tr_dec rfl
end Mine
namespace Mine
variable {w : World}
theorem law_t20 {c : Cx w lawS 20} {cs ct : Addr} {co cto : Obj} {sl : Addr} {ns : List Int} (hC : LawC c cs ct co cto sl ns) (st sd rl xl fx mx sg fd md hd wl tl : Addr) (so lo fo mo ho wo to : Obj) (W : List Int) (a go c_ p_ a_ z_ sf f_ : Int) (hso : IsDict w so (stE rl xl fx mx sg go)) (hlo : IsIL lo W) (hwo : IsIL wo W) (hfo : IsDict w fo (flE c_ p_ a_ z_ sf f_ 0)) (hto : IsTp to [.int c_, .int p_, .int a_, .int z_, .int sf, .int f_, .int 0]) (hmo : IsDict w mo (meE hd)) (hho : IsHd w ho [(a, 7), (a + 1, 0), (a + 2, 11)]) (hhd : (hd == sysModules) = false) :
    Run c [(Str.ofString "did", .bool true), (Str.ofString "spot", .int (a + 1)), (Str.ofString "octet", .int 0), (Str.ofString "goal", .int go), (Str.ofString "state", .ref st), (Str.ofString "worths", .ref wl), (Str.ofString "flags", .ref tl)] [(tl, to), (wl, wo), (st, instObj 651 sd), (sd, so), (rl, lo), (fx, instObj 202 fd), (fd, fo), (mx, instObj 534 md), (md, mo), (hd, ho), (ct, cto), (cs, co)] lawR28 TrueR := by
  obtain ⟨hcl, hco, hct, hS⟩ := hC
  repeat' (first | k_extra "am" | fail "end")
  refine' Ev.compL (cl := []) ?zqa ?zqb ?zqc ?zqd ?zqe ?zqf ?zqg ?zqh ?zqi ?zqj ?zqk ?zql ?_
  (case zqa => with_unfolding_all rfl)
  (case zqb => decide +kernel)
  (case zqc => kernel_rfl)
  (case zqd => decide +kernel)
  (case zqe => kernel_rfl)
  (case zqf => intro _; kernel_rfl)
  (case zqg => k_extra "lk")
  (case zqh => kernel_rfl)
  (case zqi => kernel_rfl)
  (case zqj => k_mem)
  (case zqk => assumption)
  (case zql => exact Nat.le_of_ble_eq_true rfl)
  refine' ForC.kept (Dl := [(a + 1 - 1, 7), (a + 1, 0), (a + 1 + 1, 11)]) ?zw1 ?zw2 ?zw3 ?zw4 _ _ ?zw5 ?_
  (case zw1 => intro _; exact rfl)
  (case zw2 => intro _; kernel_rfl)
  (case zw3 => kernel_rfl)
  (case zw4 => intro _ _; kernel_rfl)
  (case zw5 => k_extra "tupl")
  refine ⟨fun e => absurd e (show ¬ (7 : Int) = 0 by decide), fun _ => ⟨fun _ => ⟨fun e => absurd e (show ¬ (11 : Int) = 0 by decide), fun _ => ?_⟩, fun e => absurd rfl e⟩⟩
  intro lx' lo' il
  simp only [List.nil_append, List.cons_append] at il
  repeat' (first | k_extra "am" | fail "end")
  all_goals first | exact rfl | exact tr_dec rfl
end Mine
namespace Mine
variable {w : World}
theorem IsDict.rip {o : Obj} {rl xl fx mx sg : Addr} {r r' : Int} (h : IsDict w o (stE rl xl fx mx sg r)) (e : r = r') : IsDict w o (stE rl xl fx mx sg r') := e ▸ h
theorem IsIL.cast {o : Obj} {ns ms : List Int} (h : IsIL o ns) (e : ns = ms) : IsIL o ms := e ▸ h
theorem hput_mid {a v : Int} : hput (a + 1) v [(a, 7), (a + 1, 9), (a + 2, 11)] = [(a, 7), (a + 1, v), (a + 2, 11)] := by
  have e1 : ¬ a = a + 1 := by omega
  have e2 : ¬ a + 2 = a + 1 := by omega
  simp [hput, e1, e2]
theorem near256 {x y : Int} (h0 : 0 ≤ y) (h1 : y < 2) : 0 ≤ x % 256 ^ (1 + 3 * y).toNat ∧ x % 256 ^ (1 + 3 * y).toNat < 2 ^ 64 := by
  have hp : (0 : Int) < 256 ^ (1 + 3 * y).toNat := Int.pow_pos (by decide)
  refine ⟨Int.emod_nonneg _ (Int.ne_of_gt hp), ?_⟩
  have h := Int.emod_lt_of_pos x hp
  rcases (by omega : y = 0 ∨ y = 1) with rfl | rfl
  · exact Int.lt_trans h (by decide)
  · exact Int.lt_trans h (by decide)
theorem rip_t {b : Bool} {at_ far : Int} (h : b = true) : (if b = true then (at_ + far) % 2 ^ 64 else at_) = (at_ + far) % 2 ^ (64 : Int).toNat := by rw [if_pos h]; rfl
theorem rip_f {b : Bool} {x far : Int} (h : b = false) : (if b = true then (1073741824 + x % 4096 + far) % 2 ^ 64 else 1073741824 + x % 4096) = (1073741824 + x % 4096) % 2 ^ (64 : Int).toNat := by
  rw [if_neg (ne_true_of_eq_false h)]
  exact (Int.emod_eq_of_lt (by omega) (by show _ < (18446744073709551616 : Int); omega)).symm
theorem set8_eq {b : Bool} {x : Int} {W : List Int} (h1 : x < 16) : W.set x.toNat (rset (W.getD x.toNat 0) (if b = true then 1 else 0) 8) = putO x b W := by
  rw [putO, if_pos h1, rset, if_pos (by decide)]
  cases b <;> rfl
theorem setH_eq {b : Bool} {x : Int} {W : List Int} (h0 : 16 ≤ x) (h1 : x < 20) : W.set (x - 12 - 4).toNat (rsetH (W.getD (x - 12 - 4).toNat 0) (if b = true then 1 else 0)) = putO x b W := by
  have e : x - 12 - 4 = x - 16 := by omega
  rw [putO, if_neg (show ¬ x < 16 by omega), if_pos h1, e]
  congr 1
  generalize W.getD (x - 16).toNat 0 = y
  cases b
  · show y + (0 % 256 - y / 256 % 256) * 256 = y - y % 65536 + 0 * 256 + y % 256
    omega
  · show y + (1 % 256 - y / 256 % 256) * 256 = y - y % 65536 + 1 * 256 + y % 256
    omega
theorem setM_eq {b : Bool} {x : Int} {W : List Int} (h : 20 ≤ x) : W = putO x b W := by rw [putO, if_neg (show ¬ x < 16 by omega), if_neg (show ¬ x < 20 by omega)]
theorem cmov_t {b : Bool} {x y n : Int} {W : List Int} (h : b = true) : W.set x.toNat (rset (W.getD x.toNat 0) (if b = true then W.getD y.toNat 0 % 2 ^ n.toNat else W.getD x.toNat 0 % 2 ^ n.toNat) n) = W.set x.toNat (lsetF (W.getD x.toNat 0) (W.getD y.toNat 0 % 2 ^ n.toNat) n) := by rw [if_pos h, rset, lsetF, Int.emod_emod]
theorem cmov_f {b : Bool} {x y n : Int} {W : List Int} (h : b = false) : W.set x.toNat (rset (W.getD x.toNat 0) (if b = true then W.getD y.toNat 0 % 2 ^ n.toNat else W.getD x.toNat 0 % 2 ^ n.toNat) n) = W.set x.toNat (lsetF (W.getD x.toNat 0) (W.getD x.toNat 0 % 2 ^ n.toNat) n) := by rw [if_neg (ne_true_of_eq_false h), rset, lsetF, Int.emod_emod]
section r45
variable {S : Scope} {D : Nat} {c : Cx w S D} {l : Locs} {led : Led} {P : AV → Led → Prop} {a : Addr} {o : Obj} {b i : PySem.Expr} {kk : Int}
theorem Sub.bits3 (ho : (a, o) ∈ led) (hi : IsLs o [.int 16, .int 32, .int 64]) (h0 : 0 ≤ kk) (h1 : kk < 3) (h : ∀ n, n = 8 ∨ n = 16 ∨ n = 32 ∨ n = 64 → 1 ≤ n → n ≤ 64 → 0 ≤ n → P (.int n) led) (hs : ∀ u, subscripted i false (.ref a) (.int kk u) = operate [.ref a, .int kk u] (getItem (.ref a) (.int kk u))) : Sub c l b i (.ref a) (.int kk) led P := by
  have hn : ([16, 32, 64] : List Int).getD kk.toNat 0 = 16 ∨ ([16, 32, 64] : List Int).getD kk.toNat 0 = 32 ∨ ([16, 32, 64] : List Int).getD kk.toNat 0 = 64 := by
    rcases (by omega : kk = 0 ∨ kk = 1 ∨ kk = 2) with rfl | rfl | rfl
    · exact .inl rfl
    · exact .inr (.inl rfl)
    · exact .inr (.inr rfl)
  exact Sub.ilL (ns := [16, 32, 64]) ho hi (.cons (.cons (.cons .nil))) h0 (by show kk < 3; omega) (by omega) (h _ (by omega) (by omega) (by omega) (by omega)) hs
end r45
end Mine
namespace Mine
variable {w : World}
theorem law_t {c : Cx w lawS 20} {cs ct : Addr} {co cto : Obj} {sl : Addr} {ns : List Int} (hC : LawC c cs ct co cto sl ns) (st sd rl xl fx mx sg fd md hd wl tl : Addr) (so lo fo mo ho wo to : Obj) (W : List Int) (a oc go c_ p_ a_ z_ sf f_ : Int) (hso : IsDict w so (stE rl xl fx mx sg go)) (hwo : IsIL wo W) (hlo : IsIL lo W) (hfo : IsDict w fo (flE c_ p_ a_ z_ sf f_ 0)) (hto : IsTp to [.int c_, .int p_, .int a_, .int z_, .int sf, .int f_, .int 0]) (hmo : IsDict w mo (meE hd)) (hho : IsHd w ho [(a, 7), (a + 1, oc), (a + 2, 11)]) (hhd : (hd == sysModules) = false) :
    Run c [(Str.ofString "did", .bool true), (Str.ofString "spot", .int (a + 1)), (Str.ofString "octet", .int oc), (Str.ofString "goal", .int go), (Str.ofString "state", .ref st), (Str.ofString "worths", .ref wl), (Str.ofString "flags", .ref tl)] [(tl, to), (wl, wo), (st, instObj 651 sd), (sd, so), (rl, lo), (fx, instObj 202 fd), (fd, fo), (mx, instObj 534 md), (md, mo), (hd, ho), (ct, cto), (cs, co)] lawR28 TrueR := by
  by_cases h : oc = 0
  · subst h; exact law_t20 hC st sd rl xl fx mx sg fd md hd wl tl so lo fo mo ho wo to W a go c_ p_ a_ z_ sf f_ hso hlo hwo hfo hto hmo hho hhd
  · exact law_t3 hC st sd rl xl fx mx sg fd md hd wl tl so lo fo mo ho wo to W a oc go c_ p_ a_ z_ sf f_ h hso hlo hwo hfo hto hmo hho hhd
end Mine
theorem Mine.rowsM45_1 : True := by
  (k_with "ambin" => ((with_reducible refine' Mine.Bin.modp ?zp ?_); (case zp => exact Int.pow_pos (by decide))))
  (k_with "ambin" => ((with_reducible refine' Mine.Bin.modp ?zp ?_); (case zp => first | with_reducible exact Mine.p2pos _ | decide)))
  (k_with "amX" => ((with_reducible refine' Mine.Sub.bits3 ?zho ?zhi ?zp0 ?zp1 ?_ ?zhs); k_extra "c50"; intro n' h4' h1' h64' h0'))
  (k_with "amif" => ((with_reducible refine' Mine.IfB.neg ?zhp ?_); (case zhp => (with_reducible refine' beq_eq_false_iff_ne.mpr ?_); omega)))
  (k_with "amif" => ((with_reducible refine' Mine.IfB.pos ?zhp ?_); (case zhp => (with_reducible refine' beq_iff_eq.mpr ?_); omega)))
  (k_with "amcall" => ((with_reducible refine' Mine.CallV.t (Mine.a_putO _ _ _ _ _ ?zp0 ?zp1 ?zp2 ?zp3 (fun o' ho' => ?_)) ?zhd (Mine.Takes.cons ?zt1 Mine.Takes.nil) ?zhU); k_extra "c37"))
  trivial
namespace Mine
variable {w : World}
theorem law_22j {c : Cx w lawS 20} {cs ct : Addr} {co cto : Obj} {sl : Addr} {ns : List Int} (hC : LawC c cs ct co cto sl ns) (st sd rl xl fx mx sg fd md hd wl tl : Addr) (so lo fo mo ho wo to : Obj) (W : List Int) (wy a c_ p_ a_ z_ sf f_ : Int) (k : Nat) (hk : k < 16) (hW : W.length = 16) (ha0 : 4096 ≤ a) (ha1 : a < 65530) (hso : IsDict w so (stE rl xl fx mx sg 0)) (hlo : IsIL lo W) (hwo : IsIL wo W) (hfo : IsDict w fo (flE c_ p_ a_ z_ sf f_ 0)) (hto : IsTp to [.int c_, .int p_, .int a_, .int z_, .int sf, .int f_, .int 0]) (hmo : IsDict w mo (meE hd)) (hho : IsHd w ho [(a, 7), (a + 1, 9), (a + 2, 11)]) (hhd : (hd == sysModules) = false) (hw0 : 0 ≤ wy) (hw1 : wy < 2) :
    Run c [(Str.ofString "way", .int wy), (Str.ofString "worths", .ref wl), (Str.ofString "state", .ref st), (Str.ofString "spot", .int (a + 1)), (Str.ofString "flags", .ref tl), (Str.ofString "truth", .bool (hn c_ p_ z_ sf f_ k)), (Str.ofString "name", .str (nm 0 k))] [(tl, to), (wl, wo), (st, instObj 651 sd), (sd, so), (rl, lo), (fx, instObj 202 fd), (fd, fo), (mx, instObj 534 md), (md, mo), (hd, ho), (ct, cto), (cs, co)] lawR22 TrueR := by
  obtain ⟨hcl, hco, hct, hS⟩ := hC
  have hn0 := (near256 (x := cellAt ns 8 0) hw0 hw1).1
  have hn1 := (near256 (x := cellAt ns 8 0) hw0 hw1).2
  repeat' ((fail_if_success (with_reducible show Mine.Run _ _ _ (PySem.Stmt.Assign [PySem.Expr.Name (PySem.Str.ofString "kept") _] _ _ :: _) _)); first | k_extra "am" | fail "end")
  all_goals (refine' Run.into (law_t ⟨hcl, hco, hct, hS⟩ st sd rl xl fx mx sg fd md hd wl tl _ _ _ _ _ _ _ _ a _ _ c_ p_ a_ z_ sf f_ ?zhso ?zhwo ?zhlo ?zhfo ?zhto ?zhmo ?zhho hhd) ?zls ?ztk; (case zls => k_extra "locsub"); (case ztk => k_extra "take"); (case zhso => first | exact IsDict.rip (by assumption) (rip_t (by assumption)) | exact IsDict.rip (by assumption) (rip_f (by assumption))); (case zhwo => assumption); (case zhlo => assumption); (case zhfo => assumption); (case zhto => assumption); (case zhmo => assumption); (case zhho => assumption))
end Mine
namespace Mine
variable {w : World}
theorem law_22s8 {c : Cx w lawS 20} {cs ct : Addr} {co cto : Obj} {sl : Addr} {ns : List Int} (hC : LawC c cs ct co cto sl ns) (st sd rl xl fx mx sg fd md hd wl tl : Addr) (so lo fo mo ho wo to : Obj) (W : List Int) (a c_ p_ a_ z_ sf f_ : Int) (k : Nat) (hk : k < 16) (hW : W.length = 16) (ha0 : 4096 ≤ a) (ha1 : a < 65530) (hso : IsDict w so (stE rl xl fx mx sg 0)) (hlo : IsIL lo W) (hwo : IsIL wo W) (hfo : IsDict w fo (flE c_ p_ a_ z_ sf f_ 0)) (hto : IsTp to [.int c_, .int p_, .int a_, .int z_, .int sf, .int f_, .int 0]) (hmo : IsDict w mo (meE hd)) (hho : IsHd w ho [(a, 7), (a + 1, 9), (a + 2, 11)]) (hhd : (hd == sysModules) = false) (ht1 : cellAt ns 7 0 % 21 < 16) :
    Run c [(Str.ofString "way", .int 2), (Str.ofString "worths", .ref wl), (Str.ofString "state", .ref st), (Str.ofString "spot", .int (a + 1)), (Str.ofString "flags", .ref tl), (Str.ofString "truth", .bool (hn c_ p_ z_ sf f_ k)), (Str.ofString "name", .str (nm 1 k))] [(tl, to), (wl, wo), (st, instObj 651 sd), (sd, so), (rl, lo), (fx, instObj 202 fd), (fd, fo), (mx, instObj 534 md), (md, mo), (hd, ho), (ct, cto), (cs, co)] lawR22 TrueR := by
  obtain ⟨hcl, hco, hct, hS⟩ := hC
  have ht0 : 0 ≤ cellAt ns 7 0 % 21 := by omega
  repeat' ((fail_if_success (with_reducible show Mine.Run _ _ _ (PySem.Stmt.Assign [PySem.Expr.Name (PySem.Str.ofString "kept") _] _ _ :: _) _)); first | k_extra "am" | fail "end")
  all_goals (refine' Run.into (law_t ⟨hcl, hco, hct, hS⟩ st sd rl xl fx mx sg fd md hd wl tl _ _ _ _ _ _ _ _ a _ _ c_ p_ a_ z_ sf f_ ?zhso ?zhwo ?zhlo ?zhfo ?zhto ?zhmo ?zhho hhd) ?zls ?ztk; (case zls => k_extra "locsub"); (case ztk => k_extra "take"); (case zhso => assumption); (case zhwo => assumption); (case zhlo => exact IsIL.cast (by assumption) (set8_eq ht1)); (case zhfo => assumption); (case zhto => assumption); (case zhmo => assumption); (case zhho => assumption))
end Mine
namespace Mine
variable {w : World}
theorem law_22sH {c : Cx w lawS 20} {cs ct : Addr} {co cto : Obj} {sl : Addr} {ns : List Int} (hC : LawC c cs ct co cto sl ns) (st sd rl xl fx mx sg fd md hd wl tl : Addr) (so lo fo mo ho wo to : Obj) (W : List Int) (a c_ p_ a_ z_ sf f_ : Int) (k : Nat) (hk : k < 16) (hW : W.length = 16) (ha0 : 4096 ≤ a) (ha1 : a < 65530) (hso : IsDict w so (stE rl xl fx mx sg 0)) (hlo : IsIL lo W) (hwo : IsIL wo W) (hfo : IsDict w fo (flE c_ p_ a_ z_ sf f_ 0)) (hto : IsTp to [.int c_, .int p_, .int a_, .int z_, .int sf, .int f_, .int 0]) (hmo : IsDict w mo (meE hd)) (hho : IsHd w ho [(a, 7), (a + 1, 9), (a + 2, 11)]) (hhd : (hd == sysModules) = false) (ht0 : 16 ≤ cellAt ns 7 0 % 21) (ht1 : cellAt ns 7 0 % 21 < 20) :
    Run c [(Str.ofString "way", .int 2), (Str.ofString "worths", .ref wl), (Str.ofString "state", .ref st), (Str.ofString "spot", .int (a + 1)), (Str.ofString "flags", .ref tl), (Str.ofString "truth", .bool (hn c_ p_ z_ sf f_ k)), (Str.ofString "name", .str (nm 1 k))] [(tl, to), (wl, wo), (st, instObj 651 sd), (sd, so), (rl, lo), (fx, instObj 202 fd), (fd, fo), (mx, instObj 534 md), (md, mo), (hd, ho), (ct, cto), (cs, co)] lawR22 TrueR := by
  obtain ⟨hcl, hco, hct, hS⟩ := hC
  have ht2 : 4 ≤ cellAt ns 7 0 % 21 - 12 := by omega
  have ht3 : cellAt ns 7 0 % 21 - 12 < 8 := by omega
  repeat' ((fail_if_success (with_reducible show Mine.Run _ _ _ (PySem.Stmt.Assign [PySem.Expr.Name (PySem.Str.ofString "kept") _] _ _ :: _) _)); first | k_extra "am" | fail "end")
  all_goals (refine' Run.into (law_t ⟨hcl, hco, hct, hS⟩ st sd rl xl fx mx sg fd md hd wl tl _ _ _ _ _ _ _ _ a _ _ c_ p_ a_ z_ sf f_ ?zhso ?zhwo ?zhlo ?zhfo ?zhto ?zhmo ?zhho hhd) ?zls ?ztk; (case zls => k_extra "locsub"); (case ztk => k_extra "take"); (case zhso => assumption); (case zhwo => assumption); (case zhlo => exact IsIL.cast (by assumption) (setH_eq ht0 ht1)); (case zhfo => assumption); (case zhto => assumption); (case zhmo => assumption); (case zhho => assumption))
end Mine
namespace Mine
variable {w : World}
theorem law_22sM {c : Cx w lawS 20} {cs ct : Addr} {co cto : Obj} {sl : Addr} {ns : List Int} (hC : LawC c cs ct co cto sl ns) (st sd rl xl fx mx sg fd md hd wl tl : Addr) (so lo fo mo ho wo to : Obj) (W : List Int) (a c_ p_ a_ z_ sf f_ : Int) (k : Nat) (hk : k < 16) (hW : W.length = 16) (ha0 : 4096 ≤ a) (ha1 : a < 65530) (hso : IsDict w so (stE rl xl fx mx sg 0)) (hlo : IsIL lo W) (hwo : IsIL wo W) (hfo : IsDict w fo (flE c_ p_ a_ z_ sf f_ 0)) (hto : IsTp to [.int c_, .int p_, .int a_, .int z_, .int sf, .int f_, .int 0]) (hmo : IsDict w mo (meE hd)) (hho : IsHd w ho [(a, 7), (a + 1, 9), (a + 2, 11)]) (hhd : (hd == sysModules) = false) (ht0 : 20 ≤ cellAt ns 7 0 % 21) :
    Run c [(Str.ofString "way", .int 2), (Str.ofString "worths", .ref wl), (Str.ofString "state", .ref st), (Str.ofString "spot", .int (a + 1)), (Str.ofString "flags", .ref tl), (Str.ofString "truth", .bool (hn c_ p_ z_ sf f_ k)), (Str.ofString "name", .str (nm 1 k))] [(tl, to), (wl, wo), (st, instObj 651 sd), (sd, so), (rl, lo), (fx, instObj 202 fd), (fd, fo), (mx, instObj 534 md), (md, mo), (hd, ho), (ct, cto), (cs, co)] lawR22 TrueR := by
  obtain ⟨hcl, hco, hct, hS⟩ := hC
  have ht1 : cellAt ns 7 0 % 21 = 20 := by omega
  have ha2 : 0 ≤ a + 1 := by omega
  have ha3 : a + 1 < 65536 := by omega
  have hDl : ([(a, 7), (a + 1, 9), (a + 2, 11)] : List (Int × Int)).length ≤ 16 := Nat.le_of_ble_eq_true rfl
  repeat' ((fail_if_success (with_reducible show Mine.Run _ _ _ (PySem.Stmt.Assign [PySem.Expr.Name (PySem.Str.ofString "kept") _] _ _ :: _) _)); first | k_extra "am" | fail "end")
  all_goals (refine' Run.into (law_t ⟨hcl, hco, hct, hS⟩ st sd rl xl fx mx sg fd md hd wl tl _ _ _ _ _ _ _ _ a _ _ c_ p_ a_ z_ sf f_ ?zhso ?zhwo ?zhlo ?zhfo ?zhto ?zhmo ?zhho hhd) ?zls ?ztk; (case zls => k_extra "locsub"); (case ztk => k_extra "take"); (case zhso => assumption); (case zhwo => assumption); (case zhlo => exact IsIL.cast (by assumption) (setM_eq ht0)); (case zhfo => assumption); (case zhto => assumption); (case zhmo => assumption); (case zhho => exact IsHd.cast (by assumption) hput_mid))
end Mine
namespace Mine
variable {w : World}
theorem law_22c {c : Cx w lawS 20} {cs ct : Addr} {co cto : Obj} {sl : Addr} {ns : List Int} (hC : LawC c cs ct co cto sl ns) (st sd rl xl fx mx sg fd md hd wl tl : Addr) (so lo fo mo ho wo to : Obj) (W : List Int) (a c_ p_ a_ z_ sf f_ : Int) (k : Nat) (hk : k < 16) (hW : W.length = 16) (ha0 : 4096 ≤ a) (ha1 : a < 65530) (hso : IsDict w so (stE rl xl fx mx sg 0)) (hlo : IsIL lo W) (hwo : IsIL wo W) (hfo : IsDict w fo (flE c_ p_ a_ z_ sf f_ 0)) (hto : IsTp to [.int c_, .int p_, .int a_, .int z_, .int sf, .int f_, .int 0]) (hmo : IsDict w mo (meE hd)) (hho : IsHd w ho [(a, 7), (a + 1, 9), (a + 2, 11)]) (hhd : (hd == sysModules) = false) :
    Run c [(Str.ofString "way", .int 3), (Str.ofString "worths", .ref wl), (Str.ofString "state", .ref st), (Str.ofString "spot", .int (a + 1)), (Str.ofString "flags", .ref tl), (Str.ofString "truth", .bool (hn c_ p_ z_ sf f_ k)), (Str.ofString "name", .str (nm 2 k))] [(tl, to), (wl, wo), (st, instObj 651 sd), (sd, so), (rl, lo), (fx, instObj 202 fd), (fd, fo), (mx, instObj 534 md), (md, mo), (hd, ho), (ct, cto), (cs, co)] lawR22 TrueR := by
  obtain ⟨hcl, hco, hct, hS⟩ := hC
  have ht0 : 0 ≤ cellAt ns 7 0 % 16 := by omega
  have ht1 : cellAt ns 7 0 % 16 < 16 := by omega
  have hs0 : 0 ≤ cellAt ns 8 0 % 16 := by omega
  have hs1 : cellAt ns 8 0 % 16 < 16 := by omega
  repeat' ((fail_if_success (with_reducible show Mine.Run _ _ _ (PySem.Stmt.Assign [PySem.Expr.Name (PySem.Str.ofString "kept") _] _ _ :: _) _)); first | k_extra "am" | fail "end")
  all_goals (refine' Run.into (law_t ⟨hcl, hco, hct, hS⟩ st sd rl xl fx mx sg fd md hd wl tl _ _ _ _ _ _ _ _ a _ _ c_ p_ a_ z_ sf f_ ?zhso ?zhwo ?zhlo ?zhfo ?zhto ?zhmo ?zhho hhd) ?zls ?ztk; (case zls => k_extra "locsub"); (case ztk => k_extra "take"); (case zhso => assumption); (case zhwo => assumption); (case zhlo => first | exact IsIL.cast (by assumption) (cmov_t (by assumption)) | exact IsIL.cast (by assumption) (cmov_f (by assumption))); (case zhfo => assumption); (case zhto => assumption); (case zhmo => assumption); (case zhho => assumption))
end Mine
namespace Mine
variable {w : World}
section r46
variable {S : Scope} {D : Nat} {c : Cx w S D} {l : Locs} {led : Led} {P : AV → Led → Prop} {a : Addr} {o : Obj} {b i : PySem.Expr} {kk : Int}
theorem Sub.stem (ho : (a, o) ∈ led) (hi : IsLs o [.str (Str.ofString "j"), .str (Str.ofString "j"), .str (Str.ofString "set"), .str (Str.ofString "cmov")]) (h0 : 0 ≤ kk) (h1 : kk < 4) (h : P (.str (stm (wvOf kk))) led) (hs : ∀ u, subscripted i false (.ref a) (.int kk u) = operate [.ref a, .int kk u] (getItem (.ref a) (.int kk u))) : Sub c l b i (.ref a) (.int kk) led P := by
  refine Sub.slL (ys := [Str.ofString "j", Str.ofString "j", Str.ofString "set", Str.ofString "cmov"]) ho hi (.cons (.cons (.cons (.cons .nil)))) h0 (by show kk < 4; omega) (by omega) ?_ hs
  rcases (by omega : kk = 0 ∨ kk = 1 ∨ kk = 2 ∨ kk = 3) with rfl | rfl | rfl | rfl
  · rw [show stm (wvOf 0) = Str.ofString "j" from stm_0.symm] at h; exact h
  · rw [show stm (wvOf 1) = Str.ofString "j" from stm_0.symm] at h; exact h
  · rw [show stm (wvOf 2) = Str.ofString "set" from stm_1.symm] at h; exact h
  · rw [show stm (wvOf 3) = Str.ofString "cmov" from stm_2.symm] at h; exact h
theorem Bin.addwn {wv k i : Nat} (hw : wv < 3) (hk : k < 16) (hi : i < 3) (h : P (.str (wn wv k i)) led) : Bin c l .Add (.str (stm wv)) (.str ((namesL k).getD i Str.empty)) led P := by
  have e := wn_len hw hk hi
  rw [show wn wv k i = stm wv ++ (namesL k).getD i ⟨#[]⟩ from rfl, PySem.Str.length_append] at e
  exact Bin.adds e h
end r46
theorem a_truthE (x y n k : Int) (tr : Bool) (h1 : 1 ≤ n) (h64 : n ≤ 64) (hx0 : 0 ≤ x) (hx1 : x < 2 ^ 64) (hy0 : 0 ≤ y) (hy1 : y < 2 ^ 64) (hk0 : 0 ≤ k) (hk1 : k < 16) (e : truV (decide (-2 ^ (n - 1).toNat ≤ nearF x n - nearF y n) && decide (nearF x n - nearF y n < 2 ^ (n - 1).toNat)) x y (2 ^ (n - 1).toNat) (nearF x n) (nearF y n) ((x - y) % 2 ^ n.toNat) k = tr) {P : AV → Led → Prop} (h : P (.bool tr) []) : CallsN w 935 [.int x, .int y, .int n, .int k] [] 3 P := a_truth x y n k h1 h64 hx0 hx1 hy0 hy1 hk0 hk1 (e ▸ h)
end Mine
theorem Mine.rowsM46_1 : True := by
  (k_with "amX" => ((with_reducible refine' Mine.Sub.stem ?zho ?zhi ?zp0 ?zp1 ?_ ?zhs); k_extra "c5"; (case zp0 => assumption); (case zp1 => assumption); (case zhs => (intro _; kernel_rfl))))
  (k_with "ambin" => ((with_reducible refine' Mine.Bin.addwn ?zhw ?zhk ?zhi ?_); (case zhw => assumption); (case zhk => assumption); (case zhi => first | assumption | decide)))
  (k_with "ambin" => ((with_reducible refine' Mine.Bin.modp ?zp ?_); (case zp => first | with_reducible exact Mine.p2pos _ | with_reducible assumption | decide)))
  (k_with "amcall" => ((with_reducible refine' Mine.CallV.split1 ?zhy ?zhz ?zhe ?_); (case zhe => with_reducible exact Mine.rows_eq); k_extra "c53"; intro l' o' ho'))
  (k_with "amcall" => ((with_reducible refine' Mine.CallV.n0 (Mine.a_truthE _ _ _ _ _ ?zp0 ?zp1 ?zp2 ?zp3 ?zp4 ?zp5 ?zp6 ?zp7 ?zp8 (Mine.Nw0.intro ?_)) ?zhd Mine.Takes.nil); k_extra "c39"; (case zp8 => assumption); (case zhd => decide)))
  (k_with "amX" => ((with_reducible refine' Mine.Sub.ilL ?zho ?zhi ?zhy ?zp0 ?zp1 ?zp2 ?_ ?zhs); k_extra "c5"; (case zhy => k_extra "intl"); (case zp0 => k_extra "bnd"); (case zp1 => (simp only [List.length_cons, List.length_nil]; omega)); k_extra "c35"))
  (k_with "amX" => ((with_reducible refine' Mine.Sub.bits3 ?zho ?zhi ?zp0 ?zp1 ?_ ?zhs); k_extra "c50"; intro n' h4' h1' h64' h0'))
  trivial
namespace Mine
variable {w : World}
theorem law_16 {c : Cx w lawS 20} {cs ct : Addr} {co cto : Obj} {sl : Addr} {ns : List Int} (hC : LawC c cs ct co cto sl ns) (st sd rl xl fx mx sg fd md hd wl : Addr) (so lo fo mo ho wo : Obj) (W : List Int) (fi se bt wy sp a c_ p_ a_ z_ sf f_ : Int) (k : Nat) (hf0 : 0 ≤ fi) (hf1 : fi < 16) (hs0 : 0 ≤ se) (hs1 : se < 16) (hbt : bt = 8 ∨ bt = 16 ∨ bt = 32 ∨ bt = 64) (hw0 : 0 ≤ wy) (hw4 : wy < 4) (hk : k < 16) (hW : W.length = 16) (hsp : sp = a + 1) (ha0 : 4096 ≤ a) (ha1 : a < 65530) (hso : IsDict w so (stE rl xl fx mx sg 0)) (hlo : IsIL lo W) (hwo : IsIL wo W) (hfo : IsDict w fo (flE c_ p_ a_ z_ sf f_ 0)) (hmo : IsDict w mo (meE hd)) (hho : IsHd w ho [(a, 7), (a + 1, 9), (a + 2, 11)]) (hhd : (hd == sysModules) = false)
    (htr : truV (decide (-2 ^ (bt - 1).toNat ≤ nearF (W.getD fi.toNat 0 % 2 ^ bt.toNat) bt - nearF (W.getD se.toNat 0 % 2 ^ bt.toNat) bt) && decide (nearF (W.getD fi.toNat 0 % 2 ^ bt.toNat) bt - nearF (W.getD se.toNat 0 % 2 ^ bt.toNat) bt < 2 ^ (bt - 1).toNat)) (W.getD fi.toNat 0 % 2 ^ bt.toNat) (W.getD se.toNat 0 % 2 ^ bt.toNat) (2 ^ (bt - 1).toNat) (nearF (W.getD fi.toNat 0 % 2 ^ bt.toNat) bt) (nearF (W.getD se.toNat 0 % 2 ^ bt.toNat) bt) ((W.getD fi.toNat 0 % 2 ^ bt.toNat - W.getD se.toNat 0 % 2 ^ bt.toNat) % 2 ^ bt.toNat) (k : Int) = hn c_ p_ z_ sf f_ k) : Run c [(Str.ofString "first", .int fi), (Str.ofString "second", .int se), (Str.ofString "worths", .ref wl), (Str.ofString "bits", .int bt), (Str.ofString "number", .int (k : Int)), (Str.ofString "way", .int wy), (Str.ofString "state", .ref st), (Str.ofString "spot", .int sp)] [(wl, wo), (st, instObj 651 sd), (sd, so), (rl, lo), (fx, instObj 202 fd), (fd, fo), (mx, instObj 534 md), (md, mo), (hd, ho), (ct, cto), (cs, co)] lawR16 TrueR := by
  obtain ⟨hcl, hco, hct, hS⟩ := hC
  subst hsp
  have b1 : 1 ≤ bt := by omega
  have b2 : bt ≤ 64 := by omega
  have b0 : 0 ≤ bt := by omega
  obtain ⟨x0, x1⟩ := mod_b (a := W.getD fi.toNat 0) hbt
  obtain ⟨y0, y1⟩ := mod_b (a := W.getD se.toNat 0) hbt
  have k0 : 0 ≤ (k : Int) := by omega
  have k1 : (k : Int) < 16 := by omega
  have r1 : (k : Int) < (rowsL.length : Int) := by show (k : Int) < 16; omega
  have r2 : (rowsL.getD (k : Int).toNat Str.empty).length + 2 ≤ sizeLine := rows_len hk
  have r3 : Txt.split (rowsL.getD (k : Int).toNat Str.empty) (Str.ofString ",") = namesL k := rows_names hk
  have n0 := names_len hk
  have n1 : (0 : Int) < ((namesL k).length : Int) := by omega
  have n2 : (namesL k).length ≤ 1000 := by omega
  have i0 : 0 ≤ (cellAt ns 7 0).fdiv 64 % ((namesL k).length : Int) := Int.emod_nonneg _ (by omega)
  have i1 : (cellAt ns 7 0).fdiv 64 % ((namesL k).length : Int) < ((namesL k).length : Int) := Int.emod_lt_of_pos _ n1
  have i2 : (cellAt ns 7 0).fdiv 64 % ((namesL k).length : Int) < 2 ^ 63 := by omega
  have i3 : ((cellAt ns 7 0).fdiv 64 % ((namesL k).length : Int)).toNat < 3 := by omega
  have i4 : ((cellAt ns 7 0).fdiv 64 % ((namesL k).length : Int)).toNat < (namesL k).length := by omega
  have v3 := wv_lt wy
  have z1 : (nm (wvOf wy) k != wn (wvOf wy) k (0 : Int).toNat) = false := wn_ne v3 hk
  repeat' ((fail_if_success (with_reducible show Mine.Run _ _ _ (PySem.Stmt.Assign [PySem.Expr.Name (PySem.Str.ofString "at") _] _ _ :: _) _)); first | k_extra "am" | fail "end")
  all_goals
    rcases (by omega : wy < 2 ∨ wy = 2 ∨ wy = 3) with hw | rfl | rfl
    · rw [show wvOf wy = 0 by unfold wvOf; rw [if_pos hw]]
      (refine' Run.into (law_22j ⟨hcl, hco, hct, hS⟩ st sd rl xl fx mx sg fd md hd wl _ _ _ _ _ _ _ _ W wy a c_ p_ a_ z_ sf f_ k hk hW ha0 ha1 ?zhso ?zhlo ?zhwo ?zhfo ?zhto ?zhmo ?zhho hhd hw0 hw) ?zls ?ztk; (case zls => k_extra "locsub"); (case ztk => k_extra "take"); (case zhso => assumption); (case zhwo => assumption); (case zhlo => assumption); (case zhfo => assumption); (case zhto => assumption); (case zhmo => assumption); (case zhho => assumption))
    · rw [show wvOf 2 = 1 from rfl]
      rcases (by omega : cellAt ns 7 0 % 21 < 16 ∨ (16 ≤ cellAt ns 7 0 % 21 ∧ cellAt ns 7 0 % 21 < 20) ∨ 20 ≤ cellAt ns 7 0 % 21) with ht | ⟨ht, ht'⟩ | ht
      · (refine' Run.into (law_22s8 ⟨hcl, hco, hct, hS⟩ st sd rl xl fx mx sg fd md hd wl _ _ _ _ _ _ _ _ W a c_ p_ a_ z_ sf f_ k hk hW ha0 ha1 ?zhso ?zhlo ?zhwo ?zhfo ?zhto ?zhmo ?zhho hhd ht) ?zls ?ztk; (case zls => k_extra "locsub"); (case ztk => k_extra "take"); (case zhso => assumption); (case zhwo => assumption); (case zhlo => assumption); (case zhfo => assumption); (case zhto => assumption); (case zhmo => assumption); (case zhho => assumption))
      · (refine' Run.into (law_22sH ⟨hcl, hco, hct, hS⟩ st sd rl xl fx mx sg fd md hd wl _ _ _ _ _ _ _ _ W a c_ p_ a_ z_ sf f_ k hk hW ha0 ha1 ?zhso ?zhlo ?zhwo ?zhfo ?zhto ?zhmo ?zhho hhd ht ht') ?zls ?ztk; (case zls => k_extra "locsub"); (case ztk => k_extra "take"); (case zhso => assumption); (case zhwo => assumption); (case zhlo => assumption); (case zhfo => assumption); (case zhto => assumption); (case zhmo => assumption); (case zhho => assumption))
      · (refine' Run.into (law_22sM ⟨hcl, hco, hct, hS⟩ st sd rl xl fx mx sg fd md hd wl _ _ _ _ _ _ _ _ W a c_ p_ a_ z_ sf f_ k hk hW ha0 ha1 ?zhso ?zhlo ?zhwo ?zhfo ?zhto ?zhmo ?zhho hhd ht) ?zls ?ztk; (case zls => k_extra "locsub"); (case ztk => k_extra "take"); (case zhso => assumption); (case zhwo => assumption); (case zhlo => assumption); (case zhfo => assumption); (case zhto => assumption); (case zhmo => assumption); (case zhho => assumption))
    · rw [show wvOf 3 = 2 from rfl]
      (refine' Run.into (law_22c ⟨hcl, hco, hct, hS⟩ st sd rl xl fx mx sg fd md hd wl _ _ _ _ _ _ _ _ W a c_ p_ a_ z_ sf f_ k hk hW ha0 ha1 ?zhso ?zhlo ?zhwo ?zhfo ?zhto ?zhmo ?zhho hhd ) ?zls ?ztk; (case zls => k_extra "locsub"); (case ztk => k_extra "take"); (case zhso => assumption); (case zhwo => assumption); (case zhlo => assumption); (case zhfo => assumption); (case zhto => assumption); (case zhmo => assumption); (case zhho => assumption))
end Mine
theorem Mine.rowsM47_1 : True := by
  (k_with "bnd" => first | (rw [List.length_set]; omega) | (rw [List.length_set, List.length_set]; omega))
  trivial
namespace Mine
variable {w : World}
theorem law_10 {c : Cx w lawS 20} {cs ct : Addr} {co cto : Obj} {sl : Addr} {ns : List Int} (hC : LawC c cs ct co cto sl ns) (wl : Addr) (wo : Obj) (W : List Int) (fi se bt wy : Int) (k : Nat) (hf0 : 0 ≤ fi) (hf1 : fi < 16) (hs0 : 0 ≤ se) (hs1 : se < 16) (hbt : bt = 8 ∨ bt = 16 ∨ bt = 32 ∨ bt = 64) (hw0 : 0 ≤ wy) (hw4 : wy < 4) (hk : k < 16) (hW : W.length = 16) (hwo : IsIL wo W) : Run c [(Str.ofString "first", .int fi), (Str.ofString "second", .int se), (Str.ofString "worths", .ref wl), (Str.ofString "bits", .int bt), (Str.ofString "number", .int (k : Int)), (Str.ofString "way", .int wy)] [(wl, wo), (ct, cto), (cs, co)] lawR10 TrueR := by
  obtain ⟨hcl, hco, hct, hS⟩ := hC
  have b1 : 1 ≤ bt := by omega
  have b2 : bt ≤ 64 := by omega
  have b0 : 0 ≤ bt := by omega
  repeat' ((fail_if_success (with_reducible show Mine.Run _ _ _ (PySem.Stmt.Assign [PySem.Expr.Name (PySem.Str.ofString "flags") _] _ _ :: _) _)); first | k_extra "am" | fail "end")
  all_goals (refine' Run.into (law_16 ⟨hcl, hco, hct, hS⟩ _ _ _ _ _ _ _ _ _ _ wl _ _ _ _ _ _ W fi se bt wy (12288 + cellAt ns 8 0 % 4096) (12288 + cellAt ns 8 0 % 4096 - 1) _ _ _ _ _ _ k hf0 hf1 hs0 hs1 hbt hw0 hw4 hk hW ?ze1 ?ze2 ?ze3 ?zhso ?zhlo ?zhwo ?zhfo ?zhmo ?zhho ?zhhd ?zhtr) ?zls (Takes.cons ?zt1 (Takes.cons ?zt2 (Takes.cons ?zt3 (Takes.cons ?zt4 (Takes.cons ?zt5 (Takes.cons ?zt6 (Takes.cons ?zt7 (Takes.cons ?zt8 (Takes.cons ?zt9 (Takes.cons ?zt10 (Takes.cons ?zt11 Takes.nil))))))))))))
  (case zls => k_extra "locsub")
  (case zt1 => k_extra "rem")
  (case zt2 => k_extra "rem")
  (case zt3 => k_extra "rem")
  (case zhso => with_reducible assumption)
  (case zt4 => k_extra "rem")
  (case zt5 => k_extra "rem")
  (case zt6 => k_extra "rem")
  (case zt7 => k_extra "rem")
  (case zt8 => k_extra "rem")
  (case zhmo => with_reducible assumption)
  (case zt9 => k_extra "rem")
  (case zt10 => k_extra "rem")
  (case zt11 => k_extra "rem")
  (case zhfo => with_reducible assumption)
  (case zhlo => with_reducible assumption)
  (case zhwo => with_reducible assumption)
  (case zhho => with_reducible assumption)
  (case zhhd => with_reducible assumption)
  (case ze1 => omega)
  (case ze2 => omega)
  (case ze3 => omega)
  (case zhtr => exact (flags_truth b1 (Int.emod_nonneg _ (Int.ne_of_gt (p2pos _))) (Int.emod_lt_of_pos _ (p2pos _)) (Int.emod_nonneg _ (Int.ne_of_gt (p2pos _))) (Int.emod_lt_of_pos _ (p2pos _)) (by omega) (by omega) rfl rfl).symm)
theorem law_6 {c : Cx w lawS 20} {cs ct : Addr} {co cto : Obj} {sl : Addr} {ns : List Int} (hC : LawC c cs ct co cto sl ns) (wl : Addr) (wo : Obj) (W : List Int) (bt wy : Int) (k : Nat) (hbt : bt = 8 ∨ bt = 16 ∨ bt = 32 ∨ bt = 64) (hw0 : 0 ≤ wy) (hw4 : wy < 4) (hk : k < 16) (hW : W.length = 16) (hwo : IsIL wo W) : Run c [(Str.ofString "worths", .ref wl), (Str.ofString "bits", .int bt), (Str.ofString "number", .int (k : Int)), (Str.ofString "way", .int wy)] [(wl, wo), (ct, cto), (cs, co)] lawR6 TrueR := by
  obtain ⟨hcl, hco, hct, hS⟩ := hC
  have f0 : 0 ≤ cellAt ns 5 0 % 16 := by omega
  have f1 : cellAt ns 5 0 % 16 < 16 := by omega
  have s0 : 0 ≤ cellAt ns 6 0 % 16 := by omega
  have s1 : cellAt ns 6 0 % 16 < 16 := by omega
  have hl : ∀ (i j : Nat) (x y : Int), ((W.set i x).set j y).length = 16 := fun i j x y => by rw [List.length_set, List.length_set, hW]
  have hl1 : ∀ (i : Nat) (x : Int), (W.set i x).length = 16 := fun i x => by rw [List.length_set, hW]
  repeat' ((fail_if_success (with_reducible show Mine.Run _ _ _ (PySem.Stmt.Assign [PySem.Expr.Name (PySem.Str.ofString "state") _] _ _ :: _) _)); first | k_extra "am" | fail "end")
  all_goals (refine' Run.into (law_10 ⟨hcl, hco, hct, hS⟩ wl _ _ _ _ bt wy k f0 f1 s0 s1 hbt hw0 hw4 hk ?zhW ?zhwo) ?zls ?ztk; (case zls => k_extra "locsub"); (case ztk => k_extra "take"); (case zhwo => assumption); (case zhW => exact hl _ _ _ _))
end Mine
namespace Mine
variable {w : World}
theorem EvH.cellI {S : Scope} {D : Nat} {c : Cx w S D} {led : Led} {env : Env} {x : Str} {pos : Pos} {a C : Addr} {o : Obj} {scope : Scope} {cl : List (Str × Addr)} {i : Int} {P : AV → Prop} (hc : cl.lookup x = some a) (hm : (a, o) ∈ led) (hd : ∃ t, o.data = .cell (some (.int i t))) (hk : (compEnvC scope cl C env).scope.kind = .function) (hx : (compEnvC scope cl C env).kindOf x = some .cell) (hb : (x == ("__debug__" : Str)) = false) (h : P (.int i)) : EvH c (compEnvC scope cl C env) led (.Name x pos) P := fun m s Q E F N hQ => by
  obtain ⟨t, hd⟩ := hd
  exact lcf_cell N hc hm hd (hQ _ _ s.toks h ⟨t, rfl⟩) hk hx hb
theorem bits4 (a : Int) : 8 * 2 ^ (a % 4).toNat = (8 : Int) ∨ 8 * 2 ^ (a % 4).toNat = (16 : Int) ∨ 8 * 2 ^ (a % 4).toNat = (32 : Int) ∨ 8 * 2 ^ (a % 4).toNat = (64 : Int) := by
  rcases (by omega : a % 4 = 0 ∨ a % 4 = 1 ∨ a % 4 = 2 ∨ a % 4 = 3) with e | e | e | e <;> rw [e] <;> decide
end Mine
theorem Mine.rowsM48_1 : True := by
  (k_with "amRun" => ((with_reducible refine' Mine.Run.assignCell ?zhc ?zhd ?zhx ?_ ?zU ?zhs); (case zhc => exact Mine.cl_top (by assumption)); (case zU => k_extra "put"); (case zhd => assumption); (case zhx => kernel_rfl); (case zhs => kernel_rfl)))
  (k_with "amX" => ((with_reducible refine' ⟨rfl, Mine.CelI.intro ?_⟩); intro o' ho'))
  (k_with "amcall" => ((with_reducible refine' Mine.CallV.gB (Mine.a_widened _ _ _ _ _ ?zhwo ?zhW ?_) ?zhB ?zhd (Mine.TakeR.cons ?zt1 Mine.TakeR.nil)); (case zt1 => k_extra "rem"); (case zhwo => assumption); (case zhW => assumption); (case zhB => assumption); (case zhd => decide)))
  trivial
namespace Mine
variable {w : World}
theorem law_run {c : Cx w lawS 20} {cs ct : Addr} {co cto : Obj} {sl : Addr} {ns : List Int} (hcl : c.cl = [(Str.ofString "top", ct), (Str.ofString "script", cs)]) (hco : co.data = .cell (some (.ref sl))) (hcto : cto.data = .cell none) (hS : Scr c.base sl ns) : Run c [] [(ct, cto), (cs, co)] lawB TrueR := by
  have hb := bits4 (cellAt ns 2 0)
  repeat' ((fail_if_success (with_reducible show Mine.Run _ _ _ (PySem.Stmt.Assign [PySem.Expr.Name (PySem.Str.ofString "worths") _] _ _ :: _) _)); first | k_extra "am" | fail "end")
  refine' Run.assignRange (n := 16) (cl := [(Str.ofString "top", ct), (Str.ofString "script", cs)]) (fun k => (cellAt ns 9 0 + cellAt ns 10 0 * k).fmod (2 ^ (64 : Int).toNat)) ?zq1 ?zq2 ?zq3 ?zq4 ?zq5 ?zq6 ?zq7 ?zq8 ?zq9 ?zq10 ?zq11 ?zq12 ?zq13 ?zq14 ?zq15 ?zq16 ?zq17 ?zq18 ?zq19 ?zq20 ?zq21 ?zhelt ?zhrest
  (case zq1 => with_unfolding_all rfl)
  (case zq2 => (show closureFor _ (envX _ _ _ _ _ _) = _); rw [hcl]; with_unfolding_all rfl)
  (case zq3 => decide +kernel)
  (case zq4 => kernel_rfl)
  (case zq5 => decide +kernel)
  (case zq6 => kernel_rfl)
  (case zq7 => kernel_rfl)
  (case zq8 => intro _; kernel_rfl)
  (case zq9 => k_is)
  (case zq10 => kernel_rfl)
  (case zq11 => exact Mine.neS_of (by kernel_rfl))
  (case zq12 => kernel_rfl)
  (case zq13 => kernel_rfl)
  (case zq14 => kernel_rfl)
  (case zq15 => intro; kernel_rfl)
  (case zq16 => kernel_rfl)
  (case zq17 => exact rfl)
  (case zq18 => decide)
  (case zq19 => decide)
  (case zq20 => decide)
  (case zq21 => k_extra "putl")
  case zhelt =>
    intro k C oC q1 q3 k0 k1 hn
    refine' EvM.bin (EvM.bin (EvM.cellAt (i := 9) hS (by decide) (by decide) ?zzc1 ?zzc2 ?zzc3 ?zzc4 ?zzc5 ?zzc6 (EvH.cell (v := .ref sl) rfl ?zm1 hco rfl ?zzc8 ?zzc9 rfl) (EvH.int rfl) ?zzs1 ?zzs2 ?zzs3 ?zzs4) (EvM.bin (EvM.cellAt (i := 10) hS (by decide) (by decide) ?zzd1 ?zzd2 ?zzd3 ?zzd4 ?zzd5 ?zzd6 (EvH.cell (v := .ref sl) rfl ?zm2 hco rfl ?zzd8 ?zzd9 rfl) (EvH.int rfl) ?zzt1 ?zzt2 ?zzt3 ?zzt4) (EvM.ofH (EvH.loc (.tail _ (.head _)) hn rfl ?zze1 ?zze2 rfl)) ?zhmul) ?zhadd) (EvM.ofH (EvH.cellI rfl ?zm3 ?zhd3 rfl ?zzf1 ?zzf2 rfl)) ?zhmod
    (case zzc1 => k_is)
    (case zzc2 => k_is)
    (case zzc3 => exact rfl)
    (case zzc4 => exact rfl)
    (case zzc5 => kernel_rfl)
    (case zzc6 => kernel_rfl)
    (case zm1 => k_mem)
    (case zzc8 => kernel_rfl)
    (case zzc9 => kernel_rfl)
    (case zzs1 => kernel_rfl)
    (case zzs2 => kernel_rfl)
    (case zzs3 => intro; kernel_rfl)
    (case zzs4 => kernel_rfl)
    (case zzd1 => k_is)
    (case zzd2 => k_is)
    (case zzd3 => exact rfl)
    (case zzd4 => exact rfl)
    (case zzd5 => kernel_rfl)
    (case zzd6 => kernel_rfl)
    (case zm2 => k_mem)
    (case zzd8 => kernel_rfl)
    (case zzd9 => kernel_rfl)
    (case zzt1 => kernel_rfl)
    (case zzt2 => kernel_rfl)
    (case zzt3 => intro; kernel_rfl)
    (case zzt4 => kernel_rfl)
    (case zze1 => kernel_rfl)
    (case zze2 => kernel_rfl)
    (case zzf1 => kernel_rfl)
    (case zzf2 => kernel_rfl)
    (case zm3 => k_mem)
    (case zhd3 => assumption)
    (case zhmul => exact fun t u s Q E h => mul_int (h _) (IntMulOk.of_right (intBits_le_64 (by omega) (by omega))))
    (case zhadd => exact fun t u s Q E h => add_int (h _))
    (case zhmod => exact fun t u s Q E h => mod_int (Int.ne_of_gt (p2pos _)) (h _))
  case zhrest =>
    intro wl wo hwo
    have hW : ((rangeKs 0 16).map (fun k => (cellAt ns 9 0 + cellAt ns 10 0 * k).fmod (2 ^ (64 : Int).toNat))).length = 16 := by rw [List.length_map, rangeKs_length]
    generalize (rangeKs 0 16).map (fun k => (cellAt ns 9 0 + cellAt ns 10 0 * k).fmod (2 ^ (64 : Int).toNat)) = W at hwo hW
    repeat' ((fail_if_success (with_reducible show Mine.Run _ _ _ (PySem.Stmt.Assign [PySem.Expr.Tuple _ _ _] _ _ :: _) _)); first | k_extra "am" | fail "end")
    all_goals first
      | exact rfl
      | (obtain ⟨k, hk⟩ := Int.eq_ofNat_of_zero_le (show 0 ≤ cellAt ns 1 0 % 16 by omega); rw [hk]; refine' Run.into (law_6 ⟨hcl, hco, ?zht, hS⟩ wl wo W (8 * 2 ^ (cellAt ns 2 0 % 4).toNat) (cellAt ns 0 0 % 5) k hb (by omega) (by omega) (by omega) hW hwo) ?zls ?ztk; (case zls => k_extra "locsub"); (case ztk => k_extra "take"); (case zht => assumption))
end Mine
namespace Mine
theorem law_top (w : World) {p : Program} {loose : List Str} {mean : ExcName → Option Value} {mg mb : Str → Option Value} {g : Heap} {L aL : Addr} {cd : Value} {m : Str → Option Value} {s : Shared} {Q : Flow → Shared → Prop} {E : Value → Shared → Prop} (B : Below callerA g [] g) (F : Fr g L s.heap m) (X : (K w.params).In g) (T : Top p loose mean mg mb g) {sl : Addr} {vs : List Value} {ns : List Int} {c1 c2 : Obj} (N : News g L s.heap [(L + 1 + 1, c2), (L + 1, c1)]) (hc1 : c1.data = .cell (some (.ref sl))) (hc2 : c2.data = .cell none)
    (hL : g.IsList sl vs.toArray) (hI : IntsAre vs ns) (h63 : ns.length ≤ 63) (hret : ∀ h tk m, Fr g L h m → Q (.ret (.bool true)) { s with heap := h, toks := tk }) : wpAny (model PySem.Challenge.rw_nn0070_01.row.toRowW.prog w) (callerA.deeper (envOfC lawN lawS L aL cd)) (execs lawB (envOfC lawN lawS L aL cd)) Q E s := by
  have hcells : cellsFrom (L + 1) lawS.names [] = [(Str.ofString "top", L + 1 + 1), (Str.ofString "script", L + 1)] := rfl
  have he : envOfC lawN lawS L aL cd = envX lawN lawS L aL cd [(Str.ofString "top", L + 1 + 1), (Str.ofString "script", L + 1)] := by unfold envOfC; rw [hcells]
  have hA : callerA.deeper (envOfC lawN lawS L aL cd) = ktrTop (callerA.depth + 1) (callerA.units + 3) (some []) lawN lawS L aL cd [(Str.ofString "top", L + 1 + 1), (Str.ofString "script", L + 1)] [] := by rw [he]; rfl
  rw [hA, he]
  refine wpAny_mono (law_run (c := ⟨p, loose, mean, mg, mb, callerA.depth + 1, callerA.units + 3, some [], lawN, aL, cd, [(Str.ofString "top", L + 1 + 1), (Str.ofString "script", L + 1)], [], callerA, g, g, L, B, X, T, rfl, by decide, by decide⟩) rfl hc1 hc2 ⟨vs, hL, hI, h63⟩ s Q (fun _ _ => False) PassesOwn.never ⟨⟨m, F, fun _ _ e => by cases e⟩, N, ?_⟩ fun o l' led' f h' tk' hR ho hA' => ?_) (fun _ _ x => x) (fun _ _ x => x.elim)
  · show ([L + 1 + 1, L + 1] : List Addr).Nodup
    rw [List.nodup_cons]
    exact ⟨fun hm => absurd (List.mem_singleton.mp hm) (Nat.succ_ne_self (L + 1)), List.nodup_cons.mpr ⟨List.not_mem_nil, List.nodup_nil⟩⟩
  · obtain rfl : o = .ret (.bool true) := hR
    obtain ⟨u, rfl, hu⟩ := ho
    obtain rfl : u = .bool true := hu
    obtain ⟨m', F', _⟩ := hA'.fr
    exact hret _ _ _ F'
end Mine
local macro_rules | `(tactic| k_qdec) => `(tactic| decide +kernel)
theorem PySem.Challenge.cw_nn0070_01_holds : PySem.Challenge.rw_nn0070_01.Holds := by
  refine holds_law Mine.said fun _ => ?_
  refine holds_open (r := PySem.Challenge.rw_nn0070_01.row) (q := Mine.q) (loose := Mine.loose) (Xt := Mine.xt) (XP := XL Mine.q []) (Yf := (kHook Mine.K Mine.kAs (fun _ => by kernel_rfl)).obs) (Ya := (kHook Mine.K Mine.kAs (fun _ => by kernel_rfl)).val) (YP := (kHook Mine.K Mine.kAs (fun _ => by kernel_rfl)).says) (N := 12948) Mine.left (kHook Mine.K Mine.kAs (fun _ => by kernel_rfl)).of (kHook Mine.K Mine.kAs (fun _ => by kernel_rfl)).keeps (fun s e => xl_of s (Bool.and_eq_true_iff.mp e).1) XL.keeps (by rfl) (by rfl) (by rfl) (fun s e => recFacts_of (Bool.and_eq_true_iff.mp e).2) (by rfl) Mine.wsaid Mine.opens Mine.bares Mine.wit ?zhc
  k_go0
  (all_goals try k_fold)
  (repeat' ((fail_if_success (with_reducible show wpAny _ _ (execs Mine.lawB _) _ _ _)); first | (k_unfold; (try dsimp only)) | walk1 | dsimp only | (leave1; walk_say "STEP leave1"; try dsimp only) | fail "no step"))
  rename_i hl hr N0 X0
  refine' Mine.law_top _ ?zzB ?zzF ?zzX ?zzT ?zzN ?zzc1 ?zzc2 ?zzhL ?zzhI ?zzh63 ?zze
  case zzB => k_asm
  case zzF => k_asm
  case zzX => k_asm
  case zzT => k_asm
  case zzN => exact N0
  case zzc1 => exact hr
  case zzc2 => exact hl
  case zzhL => assumption
  case zzhI => assumption
  case zzh63 => omega
  case zze =>
    intro h tk m F
    k_unfold
    try dsimp only
    k_end
    wrow_close
