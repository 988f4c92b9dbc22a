import PyProof.Rows.All
import Wide.All
import OpenK.AllK
import Wide.FinOn
import Lean
import PySem.Challenge.RW_qz0143_01
open PySem PySem.W PySem.Calls PyProof.Rows
set_option Elab.async false
set_option maxRecDepth 100000
set_option linter.all false
namespace Mine
local macro_rules | `(tactic| k_lt $h:ident) => `(tactic| (replace $h := PySem.W.allLt_of $h; dsimp only [PySem.W.AllLt] at $h:ident))
set_option maxHeartbeats 0
-- text HEAD
noncomputable abbrev pE : Program := PySem.Challenge.pw_qz0143_01
noncomputable abbrev E (P : Params) (x : String) (t : Nat) (v : Value) : DictEntry := ⟨PyData.keyHash P (Str.ofString x), .str (Str.ofString x) t, v⟩
noncomputable def noStmt : Stmt := .Pass ⟨0, 0, 0, 0⟩
noncomputable def nthS : List Stmt → Nat → Stmt
  | [], _ => noStmt
  | s :: _, 0 => s
  | _ :: r, n + 1 => nthS r n
noncomputable def top (i : Nat) : Stmt := nthS pE.main.body i
noncomputable def sub (s : Stmt) (j : Nat) : Stmt := match s with
  | .ClassDef _ _ _ b .. => nthS b j
  | .FunctionDef _ _ b .. => nthS b j
  | _ => noStmt
noncomputable def fnB (s : Stmt) : List Stmt := match s with
  | .FunctionDef _ _ b .. => b
  | _ => []
noncomputable def fnP (s : Stmt) : Arguments := match s with
  | .FunctionDef _ a .. => a
  | _ => { posonlyargs := [], args := [], vararg := none, kwonlyargs := [], kw_defaults := [], kwarg := none, defaults := [] }
noncomputable def fnSc (s : Stmt) : Scope := match s with
  | .FunctionDef _ _ _ _ _ _ sc .. => sc
  | _ => pE.main.scope
/-- a value written out: b is found by unification, no proof is kept -/
noncomputable def W9 {α : Type} (_ : α) : Type := Unit
noncomputable def w9 {α : Type} (b : α) : W9 b := ()
@[reducible] noncomputable def ext9 {α : Type} {b : α} (_ : W9 b) : α := b
noncomputable abbrev bodyE : List Stmt := behindTheImports pE
noncomputable abbrev envE : Env := { scope := pE.main.scope, locals := mainNs, globals := mainNs, cells := [], code := .ref 13, frame := some 14 }
noncomputable abbrev cE : Code := .body bodyE envE
noncomputable abbrev BF : List Frame := [topFrame ⟨0, 0, 0, 0⟩]
noncomputable abbrev thr (l : List Stmt) (p : Pos) : Thread := piecesOf l envE cE p BF
@[reducible] noncomputable def sgT (w : World) (n : Nat) (s : SharedT) (t : Thread) : Option (Flow × SharedT × Code × Pos) :=
  PySem.W.Fast.tw10110043849684766642 PySem.W.Fast.tw14364793385576792824 pE w 11 (some (.ref 6)) 1 n s t
-- the functions' parts, by their place in the program
@[reducible] noncomputable def B0 : List Stmt := ext9 (b := _ :: _) (w9 (fnB (top 0)))
@[reducible] noncomputable def P0 : Arguments := ext9 (b := ⟨_, _, _, _, _, _, _⟩) (w9 (fnP (top 0)))
@[reducible] noncomputable def Sc0 : Scope := ext9 (b := ⟨_, _, _, _, _⟩) (w9 (fnSc (top 0)))
@[reducible] noncomputable def B1 : List Stmt := ext9 (b := _ :: _) (w9 (fnB (sub (top 2) 0)))
@[reducible] noncomputable def P1 : Arguments := ext9 (b := ⟨_, _, _, _, _, _, _⟩) (w9 (fnP (sub (top 2) 0)))
@[reducible] noncomputable def Sc1 : Scope := ext9 (b := ⟨_, _, _, _, _⟩) (w9 (fnSc (sub (top 2) 0)))
@[reducible] noncomputable def B2 : List Stmt := ext9 (b := _ :: _) (w9 (fnB (sub (top 3) 0)))
@[reducible] noncomputable def P2 : Arguments := ext9 (b := ⟨_, _, _, _, _, _, _⟩) (w9 (fnP (sub (top 3) 0)))
@[reducible] noncomputable def Sc2 : Scope := ext9 (b := ⟨_, _, _, _, _⟩) (w9 (fnSc (sub (top 3) 0)))
@[reducible] noncomputable def B3 : List Stmt := ext9 (b := _ :: _) (w9 (fnB (sub (top 4) 0)))
@[reducible] noncomputable def P3 : Arguments := ext9 (b := ⟨_, _, _, _, _, _, _⟩) (w9 (fnP (sub (top 4) 0)))
@[reducible] noncomputable def Sc3 : Scope := ext9 (b := ⟨_, _, _, _, _⟩) (w9 (fnSc (sub (top 4) 0)))
@[reducible] noncomputable def B4 : List Stmt := ext9 (b := _ :: _) (w9 (fnB (sub (top 5) 0)))
@[reducible] noncomputable def P4 : Arguments := ext9 (b := ⟨_, _, _, _, _, _, _⟩) (w9 (fnP (sub (top 5) 0)))
@[reducible] noncomputable def Sc4 : Scope := ext9 (b := ⟨_, _, _, _, _⟩) (w9 (fnSc (sub (top 5) 0)))
@[reducible] noncomputable def B5 : List Stmt := ext9 (b := _ :: _) (w9 (fnB (sub (top 5) 1)))
@[reducible] noncomputable def P5 : Arguments := ext9 (b := ⟨_, _, _, _, _, _, _⟩) (w9 (fnP (sub (top 5) 1)))
@[reducible] noncomputable def Sc5 : Scope := ext9 (b := ⟨_, _, _, _, _⟩) (w9 (fnSc (sub (top 5) 1)))
@[reducible] noncomputable def B6 : List Stmt := ext9 (b := _ :: _) (w9 (fnB (sub (top 5) 2)))
@[reducible] noncomputable def P6 : Arguments := ext9 (b := ⟨_, _, _, _, _, _, _⟩) (w9 (fnP (sub (top 5) 2)))
@[reducible] noncomputable def Sc6 : Scope := ext9 (b := ⟨_, _, _, _, _⟩) (w9 (fnSc (sub (top 5) 2)))
@[reducible] noncomputable def B7 : List Stmt := ext9 (b := _ :: _) (w9 (fnB (sub (top 5) 3)))
@[reducible] noncomputable def P7 : Arguments := ext9 (b := ⟨_, _, _, _, _, _, _⟩) (w9 (fnP (sub (top 5) 3)))
@[reducible] noncomputable def Sc7 : Scope := ext9 (b := ⟨_, _, _, _, _⟩) (w9 (fnSc (sub (top 5) 3)))
@[reducible] noncomputable def B8 : List Stmt := ext9 (b := _ :: _) (w9 (fnB (sub (top 5) 4)))
@[reducible] noncomputable def P8 : Arguments := ext9 (b := ⟨_, _, _, _, _, _, _⟩) (w9 (fnP (sub (top 5) 4)))
@[reducible] noncomputable def Sc8 : Scope := ext9 (b := ⟨_, _, _, _, _⟩) (w9 (fnSc (sub (top 5) 4)))
@[reducible] noncomputable def B9 : List Stmt := ext9 (b := _ :: _) (w9 (fnB (sub (top 5) 5)))
@[reducible] noncomputable def P9 : Arguments := ext9 (b := ⟨_, _, _, _, _, _, _⟩) (w9 (fnP (sub (top 5) 5)))
@[reducible] noncomputable def Sc9 : Scope := ext9 (b := ⟨_, _, _, _, _⟩) (w9 (fnSc (sub (top 5) 5)))
@[reducible] noncomputable def B10 : List Stmt := ext9 (b := _ :: _) (w9 (fnB (sub (top 5) 6)))
@[reducible] noncomputable def P10 : Arguments := ext9 (b := ⟨_, _, _, _, _, _, _⟩) (w9 (fnP (sub (top 5) 6)))
@[reducible] noncomputable def Sc10 : Scope := ext9 (b := ⟨_, _, _, _, _⟩) (w9 (fnSc (sub (top 5) 6)))
@[reducible] noncomputable def B11 : List Stmt := ext9 (b := _ :: _) (w9 (fnB (top 7)))
@[reducible] noncomputable def P11 : Arguments := ext9 (b := ⟨_, _, _, _, _, _, _⟩) (w9 (fnP (top 7)))
@[reducible] noncomputable def Sc11 : Scope := ext9 (b := ⟨_, _, _, _, _⟩) (w9 (fnSc (top 7)))
@[reducible] noncomputable def B12 : List Stmt := ext9 (b := _ :: _) (w9 (fnB (top 9)))
@[reducible] noncomputable def P12 : Arguments := ext9 (b := ⟨_, _, _, _, _, _, _⟩) (w9 (fnP (top 9)))
@[reducible] noncomputable def Sc12 : Scope := ext9 (b := ⟨_, _, _, _, _⟩) (w9 (fnSc (top 9)))
@[reducible] noncomputable def B13 : List Stmt := ext9 (b := _ :: _) (w9 (fnB (top 11)))
@[reducible] noncomputable def P13 : Arguments := ext9 (b := ⟨_, _, _, _, _, _, _⟩) (w9 (fnP (top 11)))
@[reducible] noncomputable def Sc13 : Scope := ext9 (b := ⟨_, _, _, _, _⟩) (w9 (fnSc (top 11)))
@[reducible] noncomputable def B14 : List Stmt := ext9 (b := _ :: _) (w9 (fnB (top 12)))
@[reducible] noncomputable def P14 : Arguments := ext9 (b := ⟨_, _, _, _, _, _, _⟩) (w9 (fnP (top 12)))
@[reducible] noncomputable def Sc14 : Scope := ext9 (b := ⟨_, _, _, _, _⟩) (w9 (fnSc (top 12)))
@[reducible] noncomputable def B15 : List Stmt := ext9 (b := _ :: _) (w9 (fnB (top 15)))
@[reducible] noncomputable def P15 : Arguments := ext9 (b := ⟨_, _, _, _, _, _, _⟩) (w9 (fnP (top 15)))
@[reducible] noncomputable def Sc15 : Scope := ext9 (b := ⟨_, _, _, _, _⟩) (w9 (fnSc (top 15)))
@[reducible] noncomputable def B16 : List Stmt := ext9 (b := _ :: _) (w9 (fnB (top 16)))
@[reducible] noncomputable def P16 : Arguments := ext9 (b := ⟨_, _, _, _, _, _, _⟩) (w9 (fnP (top 16)))
@[reducible] noncomputable def Sc16 : Scope := ext9 (b := ⟨_, _, _, _, _⟩) (w9 (fnSc (top 16)))
@[reducible] noncomputable def B17 : List Stmt := ext9 (b := _ :: _) (w9 (fnB (top 17)))
@[reducible] noncomputable def P17 : Arguments := ext9 (b := ⟨_, _, _, _, _, _, _⟩) (w9 (fnP (top 17)))
@[reducible] noncomputable def Sc17 : Scope := ext9 (b := ⟨_, _, _, _, _⟩) (w9 (fnSc (top 17)))
@[reducible] noncomputable def B18 : List Stmt := ext9 (b := _ :: _) (w9 (fnB (top 18)))
@[reducible] noncomputable def P18 : Arguments := ext9 (b := ⟨_, _, _, _, _, _, _⟩) (w9 (fnP (top 18)))
@[reducible] noncomputable def Sc18 : Scope := ext9 (b := ⟨_, _, _, _, _⟩) (w9 (fnSc (top 18)))
@[reducible] noncomputable def B19 : List Stmt := ext9 (b := _ :: _) (w9 (fnB (top 19)))
@[reducible] noncomputable def P19 : Arguments := ext9 (b := ⟨_, _, _, _, _, _, _⟩) (w9 (fnP (top 19)))
@[reducible] noncomputable def Sc19 : Scope := ext9 (b := ⟨_, _, _, _, _⟩) (w9 (fnSc (top 19)))
@[reducible] noncomputable def B20 : List Stmt := ext9 (b := _ :: _) (w9 (fnB (top 20)))
@[reducible] noncomputable def P20 : Arguments := ext9 (b := ⟨_, _, _, _, _, _, _⟩) (w9 (fnP (top 20)))
@[reducible] noncomputable def Sc20 : Scope := ext9 (b := ⟨_, _, _, _, _⟩) (w9 (fnSc (top 20)))
@[reducible] noncomputable def B21 : List Stmt := ext9 (b := _ :: _) (w9 (fnB (top 21)))
@[reducible] noncomputable def P21 : Arguments := ext9 (b := ⟨_, _, _, _, _, _, _⟩) (w9 (fnP (top 21)))
@[reducible] noncomputable def Sc21 : Scope := ext9 (b := ⟨_, _, _, _, _⟩) (w9 (fnSc (top 21)))
@[reducible] noncomputable def B22 : List Stmt := ext9 (b := _ :: _) (w9 (fnB (top 22)))
@[reducible] noncomputable def P22 : Arguments := ext9 (b := ⟨_, _, _, _, _, _, _⟩) (w9 (fnP (top 22)))
@[reducible] noncomputable def Sc22 : Scope := ext9 (b := ⟨_, _, _, _, _⟩) (w9 (fnSc (top 22)))
@[reducible] noncomputable def B23 : List Stmt := ext9 (b := _ :: _) (w9 (fnB (top 23)))
@[reducible] noncomputable def P23 : Arguments := ext9 (b := ⟨_, _, _, _, _, _, _⟩) (w9 (fnP (top 23)))
@[reducible] noncomputable def Sc23 : Scope := ext9 (b := ⟨_, _, _, _, _⟩) (w9 (fnSc (top 23)))
@[reducible] noncomputable def B24 : List Stmt := ext9 (b := _ :: _) (w9 (fnB (top 24)))
@[reducible] noncomputable def P24 : Arguments := ext9 (b := ⟨_, _, _, _, _, _, _⟩) (w9 (fnP (top 24)))
@[reducible] noncomputable def Sc24 : Scope := ext9 (b := ⟨_, _, _, _, _⟩) (w9 (fnSc (top 24)))
@[reducible] noncomputable def B25 : List Stmt := ext9 (b := _ :: _) (w9 (fnB (top 25)))
@[reducible] noncomputable def P25 : Arguments := ext9 (b := ⟨_, _, _, _, _, _, _⟩) (w9 (fnP (top 25)))
@[reducible] noncomputable def Sc25 : Scope := ext9 (b := ⟨_, _, _, _, _⟩) (w9 (fnSc (top 25)))
@[reducible] noncomputable def B26 : List Stmt := ext9 (b := _ :: _) (w9 (fnB (top 26)))
@[reducible] noncomputable def P26 : Arguments := ext9 (b := ⟨_, _, _, _, _, _, _⟩) (w9 (fnP (top 26)))
@[reducible] noncomputable def Sc26 : Scope := ext9 (b := ⟨_, _, _, _, _⟩) (w9 (fnSc (top 26)))
@[reducible] noncomputable def B27 : List Stmt := ext9 (b := _ :: _) (w9 (fnB (top 27)))
@[reducible] noncomputable def P27 : Arguments := ext9 (b := ⟨_, _, _, _, _, _, _⟩) (w9 (fnP (top 27)))
@[reducible] noncomputable def Sc27 : Scope := ext9 (b := ⟨_, _, _, _, _⟩) (w9 (fnSc (top 27)))
@[reducible] noncomputable def B28 : List Stmt := ext9 (b := _ :: _) (w9 (fnB (top 28)))
@[reducible] noncomputable def P28 : Arguments := ext9 (b := ⟨_, _, _, _, _, _, _⟩) (w9 (fnP (top 28)))
@[reducible] noncomputable def Sc28 : Scope := ext9 (b := ⟨_, _, _, _, _⟩) (w9 (fnSc (top 28)))
@[reducible] noncomputable def B29 : List Stmt := ext9 (b := _ :: _) (w9 (fnB (top 29)))
@[reducible] noncomputable def P29 : Arguments := ext9 (b := ⟨_, _, _, _, _, _, _⟩) (w9 (fnP (top 29)))
@[reducible] noncomputable def Sc29 : Scope := ext9 (b := ⟨_, _, _, _, _⟩) (w9 (fnSc (top 29)))
@[reducible] noncomputable def B30 : List Stmt := ext9 (b := _ :: _) (w9 (fnB (top 31)))
@[reducible] noncomputable def P30 : Arguments := ext9 (b := ⟨_, _, _, _, _, _, _⟩) (w9 (fnP (top 31)))
@[reducible] noncomputable def Sc30 : Scope := ext9 (b := ⟨_, _, _, _, _⟩) (w9 (fnSc (top 31)))
@[reducible] noncomputable def B31 : List Stmt := ext9 (b := _ :: _) (w9 (fnB (sub (top 33) 0)))
@[reducible] noncomputable def P31 : Arguments := ext9 (b := ⟨_, _, _, _, _, _, _⟩) (w9 (fnP (sub (top 33) 0)))
@[reducible] noncomputable def Sc31 : Scope := ext9 (b := ⟨_, _, _, _, _⟩) (w9 (fnSc (sub (top 33) 0)))
@[reducible] noncomputable def B32 : List Stmt := ext9 (b := _ :: _) (w9 (fnB (sub (top 34) 0)))
@[reducible] noncomputable def P32 : Arguments := ext9 (b := ⟨_, _, _, _, _, _, _⟩) (w9 (fnP (sub (top 34) 0)))
@[reducible] noncomputable def Sc32 : Scope := ext9 (b := ⟨_, _, _, _, _⟩) (w9 (fnSc (sub (top 34) 0)))
@[reducible] noncomputable def B33 : List Stmt := ext9 (b := _ :: _) (w9 (fnB (sub (top 35) 0)))
@[reducible] noncomputable def P33 : Arguments := ext9 (b := ⟨_, _, _, _, _, _, _⟩) (w9 (fnP (sub (top 35) 0)))
@[reducible] noncomputable def Sc33 : Scope := ext9 (b := ⟨_, _, _, _, _⟩) (w9 (fnSc (sub (top 35) 0)))
@[reducible] noncomputable def B34 : List Stmt := ext9 (b := _ :: _) (w9 (fnB (sub (top 38) 0)))
@[reducible] noncomputable def P34 : Arguments := ext9 (b := ⟨_, _, _, _, _, _, _⟩) (w9 (fnP (sub (top 38) 0)))
@[reducible] noncomputable def Sc34 : Scope := ext9 (b := ⟨_, _, _, _, _⟩) (w9 (fnSc (sub (top 38) 0)))
@[reducible] noncomputable def B35 : List Stmt := ext9 (b := _ :: _) (w9 (fnB (sub (top 39) 0)))
@[reducible] noncomputable def P35 : Arguments := ext9 (b := ⟨_, _, _, _, _, _, _⟩) (w9 (fnP (sub (top 39) 0)))
@[reducible] noncomputable def Sc35 : Scope := ext9 (b := ⟨_, _, _, _, _⟩) (w9 (fnSc (sub (top 39) 0)))
@[reducible] noncomputable def B36 : List Stmt := ext9 (b := _ :: _) (w9 (fnB (sub (top 39) 1)))
@[reducible] noncomputable def P36 : Arguments := ext9 (b := ⟨_, _, _, _, _, _, _⟩) (w9 (fnP (sub (top 39) 1)))
@[reducible] noncomputable def Sc36 : Scope := ext9 (b := ⟨_, _, _, _, _⟩) (w9 (fnSc (sub (top 39) 1)))
@[reducible] noncomputable def B37 : List Stmt := ext9 (b := _ :: _) (w9 (fnB (sub (top 39) 2)))
@[reducible] noncomputable def P37 : Arguments := ext9 (b := ⟨_, _, _, _, _, _, _⟩) (w9 (fnP (sub (top 39) 2)))
@[reducible] noncomputable def Sc37 : Scope := ext9 (b := ⟨_, _, _, _, _⟩) (w9 (fnSc (sub (top 39) 2)))
@[reducible] noncomputable def B38 : List Stmt := ext9 (b := _ :: _) (w9 (fnB (top 40)))
@[reducible] noncomputable def P38 : Arguments := ext9 (b := ⟨_, _, _, _, _, _, _⟩) (w9 (fnP (top 40)))
@[reducible] noncomputable def Sc38 : Scope := ext9 (b := ⟨_, _, _, _, _⟩) (w9 (fnSc (top 40)))
@[reducible] noncomputable def B39 : List Stmt := ext9 (b := _ :: _) (w9 (fnB (top 41)))
@[reducible] noncomputable def P39 : Arguments := ext9 (b := ⟨_, _, _, _, _, _, _⟩) (w9 (fnP (top 41)))
@[reducible] noncomputable def Sc39 : Scope := ext9 (b := ⟨_, _, _, _, _⟩) (w9 (fnSc (top 41)))
@[reducible] noncomputable def B40 : List Stmt := ext9 (b := _ :: _) (w9 (fnB (top 42)))
@[reducible] noncomputable def P40 : Arguments := ext9 (b := ⟨_, _, _, _, _, _, _⟩) (w9 (fnP (top 42)))
@[reducible] noncomputable def Sc40 : Scope := ext9 (b := ⟨_, _, _, _, _⟩) (w9 (fnSc (top 42)))
@[reducible] noncomputable def B41 : List Stmt := ext9 (b := _ :: _) (w9 (fnB (top 43)))
@[reducible] noncomputable def P41 : Arguments := ext9 (b := ⟨_, _, _, _, _, _, _⟩) (w9 (fnP (top 43)))
@[reducible] noncomputable def Sc41 : Scope := ext9 (b := ⟨_, _, _, _, _⟩) (w9 (fnSc (top 43)))
@[reducible] noncomputable def B42 : List Stmt := ext9 (b := _ :: _) (w9 (fnB (top 44)))
@[reducible] noncomputable def P42 : Arguments := ext9 (b := ⟨_, _, _, _, _, _, _⟩) (w9 (fnP (top 44)))
@[reducible] noncomputable def Sc42 : Scope := ext9 (b := ⟨_, _, _, _, _⟩) (w9 (fnSc (top 44)))
@[reducible] noncomputable def B43 : List Stmt := ext9 (b := _ :: _) (w9 (fnB (top 45)))
@[reducible] noncomputable def P43 : Arguments := ext9 (b := ⟨_, _, _, _, _, _, _⟩) (w9 (fnP (top 45)))
@[reducible] noncomputable def Sc43 : Scope := ext9 (b := ⟨_, _, _, _, _⟩) (w9 (fnSc (top 45)))
@[reducible] noncomputable def B44 : List Stmt := ext9 (b := _ :: _) (w9 (fnB (top 46)))
@[reducible] noncomputable def P44 : Arguments := ext9 (b := ⟨_, _, _, _, _, _, _⟩) (w9 (fnP (top 46)))
@[reducible] noncomputable def Sc44 : Scope := ext9 (b := ⟨_, _, _, _, _⟩) (w9 (fnSc (top 46)))
@[reducible] noncomputable def B45 : List Stmt := ext9 (b := _ :: _) (w9 (fnB (top 49)))
@[reducible] noncomputable def P45 : Arguments := ext9 (b := ⟨_, _, _, _, _, _, _⟩) (w9 (fnP (top 49)))
@[reducible] noncomputable def Sc45 : Scope := ext9 (b := ⟨_, _, _, _, _⟩) (w9 (fnSc (top 49)))
@[reducible] noncomputable def B46 : List Stmt := ext9 (b := _ :: _) (w9 (fnB (top 50)))
@[reducible] noncomputable def P46 : Arguments := ext9 (b := ⟨_, _, _, _, _, _, _⟩) (w9 (fnP (top 50)))
@[reducible] noncomputable def Sc46 : Scope := ext9 (b := ⟨_, _, _, _, _⟩) (w9 (fnSc (top 50)))
@[reducible] noncomputable def B47 : List Stmt := ext9 (b := _ :: _) (w9 (fnB (sub (top 58) 0)))
@[reducible] noncomputable def P47 : Arguments := ext9 (b := ⟨_, _, _, _, _, _, _⟩) (w9 (fnP (sub (top 58) 0)))
@[reducible] noncomputable def Sc47 : Scope := ext9 (b := ⟨_, _, _, _, _⟩) (w9 (fnSc (sub (top 58) 0)))
@[reducible] noncomputable def B48 : List Stmt := ext9 (b := _ :: _) (w9 (fnB (sub (top 58) 1)))
@[reducible] noncomputable def P48 : Arguments := ext9 (b := ⟨_, _, _, _, _, _, _⟩) (w9 (fnP (sub (top 58) 1)))
@[reducible] noncomputable def Sc48 : Scope := ext9 (b := ⟨_, _, _, _, _⟩) (w9 (fnSc (sub (top 58) 1)))
@[reducible] noncomputable def B49 : List Stmt := ext9 (b := _ :: _) (w9 (fnB (sub (top 58) 2)))
@[reducible] noncomputable def P49 : Arguments := ext9 (b := ⟨_, _, _, _, _, _, _⟩) (w9 (fnP (sub (top 58) 2)))
@[reducible] noncomputable def Sc49 : Scope := ext9 (b := ⟨_, _, _, _, _⟩) (w9 (fnSc (sub (top 58) 2)))
@[reducible] noncomputable def B50 : List Stmt := ext9 (b := _ :: _) (w9 (fnB (top 59)))
@[reducible] noncomputable def P50 : Arguments := ext9 (b := ⟨_, _, _, _, _, _, _⟩) (w9 (fnP (top 59)))
@[reducible] noncomputable def Sc50 : Scope := ext9 (b := ⟨_, _, _, _, _⟩) (w9 (fnSc (top 59)))
@[reducible] noncomputable def B51 : List Stmt := ext9 (b := _ :: _) (w9 (fnB (top 60)))
@[reducible] noncomputable def P51 : Arguments := ext9 (b := ⟨_, _, _, _, _, _, _⟩) (w9 (fnP (top 60)))
@[reducible] noncomputable def Sc51 : Scope := ext9 (b := ⟨_, _, _, _, _⟩) (w9 (fnSc (top 60)))
@[reducible] noncomputable def B52 : List Stmt := ext9 (b := _ :: _) (w9 (fnB (top 61)))
@[reducible] noncomputable def P52 : Arguments := ext9 (b := ⟨_, _, _, _, _, _, _⟩) (w9 (fnP (top 61)))
@[reducible] noncomputable def Sc52 : Scope := ext9 (b := ⟨_, _, _, _, _⟩) (w9 (fnSc (top 61)))
@[reducible] noncomputable def B53 : List Stmt := ext9 (b := _ :: _) (w9 (fnB (top 62)))
@[reducible] noncomputable def P53 : Arguments := ext9 (b := ⟨_, _, _, _, _, _, _⟩) (w9 (fnP (top 62)))
@[reducible] noncomputable def Sc53 : Scope := ext9 (b := ⟨_, _, _, _, _⟩) (w9 (fnSc (top 62)))
@[reducible] noncomputable def B54 : List Stmt := ext9 (b := _ :: _) (w9 (fnB (top 63)))
@[reducible] noncomputable def P54 : Arguments := ext9 (b := ⟨_, _, _, _, _, _, _⟩) (w9 (fnP (top 63)))
@[reducible] noncomputable def Sc54 : Scope := ext9 (b := ⟨_, _, _, _, _⟩) (w9 (fnSc (top 63)))
@[reducible] noncomputable def B55 : List Stmt := ext9 (b := _ :: _) (w9 (fnB (top 64)))
@[reducible] noncomputable def P55 : Arguments := ext9 (b := ⟨_, _, _, _, _, _, _⟩) (w9 (fnP (top 64)))
@[reducible] noncomputable def Sc55 : Scope := ext9 (b := ⟨_, _, _, _, _⟩) (w9 (fnSc (top 64)))
@[reducible] noncomputable def B56 : List Stmt := ext9 (b := _ :: _) (w9 (fnB (top 65)))
@[reducible] noncomputable def P56 : Arguments := ext9 (b := ⟨_, _, _, _, _, _, _⟩) (w9 (fnP (top 65)))
@[reducible] noncomputable def Sc56 : Scope := ext9 (b := ⟨_, _, _, _, _⟩) (w9 (fnSc (top 65)))
@[reducible] noncomputable def B57 : List Stmt := ext9 (b := _ :: _) (w9 (fnB (top 66)))
@[reducible] noncomputable def P57 : Arguments := ext9 (b := ⟨_, _, _, _, _, _, _⟩) (w9 (fnP (top 66)))
@[reducible] noncomputable def Sc57 : Scope := ext9 (b := ⟨_, _, _, _, _⟩) (w9 (fnSc (top 66)))
@[reducible] noncomputable def B58 : List Stmt := ext9 (b := _ :: _) (w9 (fnB (top 67)))
@[reducible] noncomputable def P58 : Arguments := ext9 (b := ⟨_, _, _, _, _, _, _⟩) (w9 (fnP (top 67)))
@[reducible] noncomputable def Sc58 : Scope := ext9 (b := ⟨_, _, _, _, _⟩) (w9 (fnSc (top 67)))
@[reducible] noncomputable def B59 : List Stmt := ext9 (b := _ :: _) (w9 (fnB (top 68)))
@[reducible] noncomputable def P59 : Arguments := ext9 (b := ⟨_, _, _, _, _, _, _⟩) (w9 (fnP (top 68)))
@[reducible] noncomputable def Sc59 : Scope := ext9 (b := ⟨_, _, _, _, _⟩) (w9 (fnSc (top 68)))
@[reducible] noncomputable def B60 : List Stmt := ext9 (b := _ :: _) (w9 (fnB (top 69)))
@[reducible] noncomputable def P60 : Arguments := ext9 (b := ⟨_, _, _, _, _, _, _⟩) (w9 (fnP (top 69)))
@[reducible] noncomputable def Sc60 : Scope := ext9 (b := ⟨_, _, _, _, _⟩) (w9 (fnSc (top 69)))
@[reducible] noncomputable def B61 : List Stmt := ext9 (b := _ :: _) (w9 (fnB (top 70)))
@[reducible] noncomputable def P61 : Arguments := ext9 (b := ⟨_, _, _, _, _, _, _⟩) (w9 (fnP (top 70)))
@[reducible] noncomputable def Sc61 : Scope := ext9 (b := ⟨_, _, _, _, _⟩) (w9 (fnSc (top 70)))
@[reducible] noncomputable def B62 : List Stmt := ext9 (b := _ :: _) (w9 (fnB (top 71)))
@[reducible] noncomputable def P62 : Arguments := ext9 (b := ⟨_, _, _, _, _, _, _⟩) (w9 (fnP (top 71)))
@[reducible] noncomputable def Sc62 : Scope := ext9 (b := ⟨_, _, _, _, _⟩) (w9 (fnSc (top 71)))
@[reducible] noncomputable def B63 : List Stmt := ext9 (b := _ :: _) (w9 (fnB (top 72)))
@[reducible] noncomputable def P63 : Arguments := ext9 (b := ⟨_, _, _, _, _, _, _⟩) (w9 (fnP (top 72)))
@[reducible] noncomputable def Sc63 : Scope := ext9 (b := ⟨_, _, _, _, _⟩) (w9 (fnSc (top 72)))
@[reducible] noncomputable def B64 : List Stmt := ext9 (b := _ :: _) (w9 (fnB (top 73)))
@[reducible] noncomputable def P64 : Arguments := ext9 (b := ⟨_, _, _, _, _, _, _⟩) (w9 (fnP (top 73)))
@[reducible] noncomputable def Sc64 : Scope := ext9 (b := ⟨_, _, _, _, _⟩) (w9 (fnSc (top 73)))
@[reducible] noncomputable def B65 : List Stmt := ext9 (b := _ :: _) (w9 (fnB (top 74)))
@[reducible] noncomputable def P65 : Arguments := ext9 (b := ⟨_, _, _, _, _, _, _⟩) (w9 (fnP (top 74)))
@[reducible] noncomputable def Sc65 : Scope := ext9 (b := ⟨_, _, _, _, _⟩) (w9 (fnSc (top 74)))
@[reducible] noncomputable def B66 : List Stmt := ext9 (b := _ :: _) (w9 (fnB (top 79)))
@[reducible] noncomputable def P66 : Arguments := ext9 (b := ⟨_, _, _, _, _, _, _⟩) (w9 (fnP (top 79)))
@[reducible] noncomputable def Sc66 : Scope := ext9 (b := ⟨_, _, _, _, _⟩) (w9 (fnSc (top 79)))
@[reducible] noncomputable def B67 : List Stmt := ext9 (b := _ :: _) (w9 (fnB (top 80)))
@[reducible] noncomputable def P67 : Arguments := ext9 (b := ⟨_, _, _, _, _, _, _⟩) (w9 (fnP (top 80)))
@[reducible] noncomputable def Sc67 : Scope := ext9 (b := ⟨_, _, _, _, _⟩) (w9 (fnSc (top 80)))
@[reducible] noncomputable def B68 : List Stmt := ext9 (b := _ :: _) (w9 (fnB (top 81)))
@[reducible] noncomputable def P68 : Arguments := ext9 (b := ⟨_, _, _, _, _, _, _⟩) (w9 (fnP (top 81)))
@[reducible] noncomputable def Sc68 : Scope := ext9 (b := ⟨_, _, _, _, _⟩) (w9 (fnSc (top 81)))
@[reducible] noncomputable def B69 : List Stmt := ext9 (b := _ :: _) (w9 (fnB (top 82)))
@[reducible] noncomputable def P69 : Arguments := ext9 (b := ⟨_, _, _, _, _, _, _⟩) (w9 (fnP (top 82)))
@[reducible] noncomputable def Sc69 : Scope := ext9 (b := ⟨_, _, _, _, _⟩) (w9 (fnSc (top 82)))
@[reducible] noncomputable def B70 : List Stmt := ext9 (b := _ :: _) (w9 (fnB (top 83)))
@[reducible] noncomputable def P70 : Arguments := ext9 (b := ⟨_, _, _, _, _, _, _⟩) (w9 (fnP (top 83)))
@[reducible] noncomputable def Sc70 : Scope := ext9 (b := ⟨_, _, _, _, _⟩) (w9 (fnSc (top 83)))
@[reducible] noncomputable def B71 : List Stmt := ext9 (b := _ :: _) (w9 (fnB (top 84)))
@[reducible] noncomputable def P71 : Arguments := ext9 (b := ⟨_, _, _, _, _, _, _⟩) (w9 (fnP (top 84)))
@[reducible] noncomputable def Sc71 : Scope := ext9 (b := ⟨_, _, _, _, _⟩) (w9 (fnSc (top 84)))
@[reducible] noncomputable def B72 : List Stmt := ext9 (b := _ :: _) (w9 (fnB (top 85)))
@[reducible] noncomputable def P72 : Arguments := ext9 (b := ⟨_, _, _, _, _, _, _⟩) (w9 (fnP (top 85)))
@[reducible] noncomputable def Sc72 : Scope := ext9 (b := ⟨_, _, _, _, _⟩) (w9 (fnSc (top 85)))
@[reducible] noncomputable def B73 : List Stmt := ext9 (b := _ :: _) (w9 (fnB (top 86)))
@[reducible] noncomputable def P73 : Arguments := ext9 (b := ⟨_, _, _, _, _, _, _⟩) (w9 (fnP (top 86)))
@[reducible] noncomputable def Sc73 : Scope := ext9 (b := ⟨_, _, _, _, _⟩) (w9 (fnSc (top 86)))
@[reducible] noncomputable def B74 : List Stmt := ext9 (b := _ :: _) (w9 (fnB (top 87)))
@[reducible] noncomputable def P74 : Arguments := ext9 (b := ⟨_, _, _, _, _, _, _⟩) (w9 (fnP (top 87)))
@[reducible] noncomputable def Sc74 : Scope := ext9 (b := ⟨_, _, _, _, _⟩) (w9 (fnSc (top 87)))
@[reducible] noncomputable def B75 : List Stmt := ext9 (b := _ :: _) (w9 (fnB (top 88)))
@[reducible] noncomputable def P75 : Arguments := ext9 (b := ⟨_, _, _, _, _, _, _⟩) (w9 (fnP (top 88)))
@[reducible] noncomputable def Sc75 : Scope := ext9 (b := ⟨_, _, _, _, _⟩) (w9 (fnSc (top 88)))
@[reducible] noncomputable def B76 : List Stmt := ext9 (b := _ :: _) (w9 (fnB (top 89)))
@[reducible] noncomputable def P76 : Arguments := ext9 (b := ⟨_, _, _, _, _, _, _⟩) (w9 (fnP (top 89)))
@[reducible] noncomputable def Sc76 : Scope := ext9 (b := ⟨_, _, _, _, _⟩) (w9 (fnSc (top 89)))
@[reducible] noncomputable def B77 : List Stmt := ext9 (b := _ :: _) (w9 (fnB (top 90)))
@[reducible] noncomputable def P77 : Arguments := ext9 (b := ⟨_, _, _, _, _, _, _⟩) (w9 (fnP (top 90)))
@[reducible] noncomputable def Sc77 : Scope := ext9 (b := ⟨_, _, _, _, _⟩) (w9 (fnSc (top 90)))
@[reducible] noncomputable def B78 : List Stmt := ext9 (b := _ :: _) (w9 (fnB (top 96)))
@[reducible] noncomputable def P78 : Arguments := ext9 (b := ⟨_, _, _, _, _, _, _⟩) (w9 (fnP (top 96)))
@[reducible] noncomputable def Sc78 : Scope := ext9 (b := ⟨_, _, _, _, _⟩) (w9 (fnSc (top 96)))
@[reducible] noncomputable def B79 : List Stmt := ext9 (b := _ :: _) (w9 (fnB (top 97)))
@[reducible] noncomputable def P79 : Arguments := ext9 (b := ⟨_, _, _, _, _, _, _⟩) (w9 (fnP (top 97)))
@[reducible] noncomputable def Sc79 : Scope := ext9 (b := ⟨_, _, _, _, _⟩) (w9 (fnSc (top 97)))
@[reducible] noncomputable def B80 : List Stmt := ext9 (b := _ :: _) (w9 (fnB (top 98)))
@[reducible] noncomputable def P80 : Arguments := ext9 (b := ⟨_, _, _, _, _, _, _⟩) (w9 (fnP (top 98)))
@[reducible] noncomputable def Sc80 : Scope := ext9 (b := ⟨_, _, _, _, _⟩) (w9 (fnSc (top 98)))
@[reducible] noncomputable def B81 : List Stmt := ext9 (b := _ :: _) (w9 (fnB (top 99)))
@[reducible] noncomputable def P81 : Arguments := ext9 (b := ⟨_, _, _, _, _, _, _⟩) (w9 (fnP (top 99)))
@[reducible] noncomputable def Sc81 : Scope := ext9 (b := ⟨_, _, _, _, _⟩) (w9 (fnSc (top 99)))
@[reducible] noncomputable def B82 : List Stmt := ext9 (b := _ :: _) (w9 (fnB (top 100)))
@[reducible] noncomputable def P82 : Arguments := ext9 (b := ⟨_, _, _, _, _, _, _⟩) (w9 (fnP (top 100)))
@[reducible] noncomputable def Sc82 : Scope := ext9 (b := ⟨_, _, _, _, _⟩) (w9 (fnSc (top 100)))
@[reducible] noncomputable def B83 : List Stmt := ext9 (b := _ :: _) (w9 (fnB (top 101)))
@[reducible] noncomputable def P83 : Arguments := ext9 (b := ⟨_, _, _, _, _, _, _⟩) (w9 (fnP (top 101)))
@[reducible] noncomputable def Sc83 : Scope := ext9 (b := ⟨_, _, _, _, _⟩) (w9 (fnSc (top 101)))
@[reducible] noncomputable def B84 : List Stmt := ext9 (b := _ :: _) (w9 (fnB (top 102)))
@[reducible] noncomputable def P84 : Arguments := ext9 (b := ⟨_, _, _, _, _, _, _⟩) (w9 (fnP (top 102)))
@[reducible] noncomputable def Sc84 : Scope := ext9 (b := ⟨_, _, _, _, _⟩) (w9 (fnSc (top 102)))
@[reducible] noncomputable def B85 : List Stmt := ext9 (b := _ :: _) (w9 (fnB (top 103)))
@[reducible] noncomputable def P85 : Arguments := ext9 (b := ⟨_, _, _, _, _, _, _⟩) (w9 (fnP (top 103)))
@[reducible] noncomputable def Sc85 : Scope := ext9 (b := ⟨_, _, _, _, _⟩) (w9 (fnSc (top 103)))
@[reducible] noncomputable def B86 : List Stmt := ext9 (b := _ :: _) (w9 (fnB (top 104)))
@[reducible] noncomputable def P86 : Arguments := ext9 (b := ⟨_, _, _, _, _, _, _⟩) (w9 (fnP (top 104)))
@[reducible] noncomputable def Sc86 : Scope := ext9 (b := ⟨_, _, _, _, _⟩) (w9 (fnSc (top 104)))
@[reducible] noncomputable def B87 : List Stmt := ext9 (b := _ :: _) (w9 (fnB (top 105)))
@[reducible] noncomputable def P87 : Arguments := ext9 (b := ⟨_, _, _, _, _, _, _⟩) (w9 (fnP (top 105)))
@[reducible] noncomputable def Sc87 : Scope := ext9 (b := ⟨_, _, _, _, _⟩) (w9 (fnSc (top 105)))
@[reducible] noncomputable def B88 : List Stmt := ext9 (b := _ :: _) (w9 (fnB (top 106)))
@[reducible] noncomputable def P88 : Arguments := ext9 (b := ⟨_, _, _, _, _, _, _⟩) (w9 (fnP (top 106)))
@[reducible] noncomputable def Sc88 : Scope := ext9 (b := ⟨_, _, _, _, _⟩) (w9 (fnSc (top 106)))
@[reducible] noncomputable def B89 : List Stmt := ext9 (b := _ :: _) (w9 (fnB (top 107)))
@[reducible] noncomputable def P89 : Arguments := ext9 (b := ⟨_, _, _, _, _, _, _⟩) (w9 (fnP (top 107)))
@[reducible] noncomputable def Sc89 : Scope := ext9 (b := ⟨_, _, _, _, _⟩) (w9 (fnSc (top 107)))
@[reducible] noncomputable def B90 : List Stmt := ext9 (b := _ :: _) (w9 (fnB (top 108)))
@[reducible] noncomputable def P90 : Arguments := ext9 (b := ⟨_, _, _, _, _, _, _⟩) (w9 (fnP (top 108)))
@[reducible] noncomputable def Sc90 : Scope := ext9 (b := ⟨_, _, _, _, _⟩) (w9 (fnSc (top 108)))
@[reducible] noncomputable def B91 : List Stmt := ext9 (b := _ :: _) (w9 (fnB (top 109)))
@[reducible] noncomputable def P91 : Arguments := ext9 (b := ⟨_, _, _, _, _, _, _⟩) (w9 (fnP (top 109)))
@[reducible] noncomputable def Sc91 : Scope := ext9 (b := ⟨_, _, _, _, _⟩) (w9 (fnSc (top 109)))
@[reducible] noncomputable def B92 : List Stmt := ext9 (b := _ :: _) (w9 (fnB (top 111)))
@[reducible] noncomputable def P92 : Arguments := ext9 (b := ⟨_, _, _, _, _, _, _⟩) (w9 (fnP (top 111)))
@[reducible] noncomputable def Sc92 : Scope := ext9 (b := ⟨_, _, _, _, _⟩) (w9 (fnSc (top 111)))
@[reducible] noncomputable def B93 : List Stmt := ext9 (b := _ :: _) (w9 (fnB (sub (top 113) 0)))
@[reducible] noncomputable def P93 : Arguments := ext9 (b := ⟨_, _, _, _, _, _, _⟩) (w9 (fnP (sub (top 113) 0)))
@[reducible] noncomputable def Sc93 : Scope := ext9 (b := ⟨_, _, _, _, _⟩) (w9 (fnSc (sub (top 113) 0)))
@[reducible] noncomputable def B94 : List Stmt := ext9 (b := _ :: _) (w9 (fnB (sub (top 114) 0)))
@[reducible] noncomputable def P94 : Arguments := ext9 (b := ⟨_, _, _, _, _, _, _⟩) (w9 (fnP (sub (top 114) 0)))
@[reducible] noncomputable def Sc94 : Scope := ext9 (b := ⟨_, _, _, _, _⟩) (w9 (fnSc (sub (top 114) 0)))
@[reducible] noncomputable def B95 : List Stmt := ext9 (b := _ :: _) (w9 (fnB (sub (top 121) 0)))
@[reducible] noncomputable def P95 : Arguments := ext9 (b := ⟨_, _, _, _, _, _, _⟩) (w9 (fnP (sub (top 121) 0)))
@[reducible] noncomputable def Sc95 : Scope := ext9 (b := ⟨_, _, _, _, _⟩) (w9 (fnSc (sub (top 121) 0)))
@[reducible] noncomputable def B96 : List Stmt := ext9 (b := _ :: _) (w9 (fnB (top 122)))
@[reducible] noncomputable def P96 : Arguments := ext9 (b := ⟨_, _, _, _, _, _, _⟩) (w9 (fnP (top 122)))
@[reducible] noncomputable def Sc96 : Scope := ext9 (b := ⟨_, _, _, _, _⟩) (w9 (fnSc (top 122)))
@[reducible] noncomputable def B97 : List Stmt := ext9 (b := _ :: _) (w9 (fnB (top 126)))
@[reducible] noncomputable def P97 : Arguments := ext9 (b := ⟨_, _, _, _, _, _, _⟩) (w9 (fnP (top 126)))
@[reducible] noncomputable def Sc97 : Scope := ext9 (b := ⟨_, _, _, _, _⟩) (w9 (fnSc (top 126)))
@[reducible] noncomputable def B98 : List Stmt := ext9 (b := _ :: _) (w9 (fnB (top 127)))
@[reducible] noncomputable def P98 : Arguments := ext9 (b := ⟨_, _, _, _, _, _, _⟩) (w9 (fnP (top 127)))
@[reducible] noncomputable def Sc98 : Scope := ext9 (b := ⟨_, _, _, _, _⟩) (w9 (fnSc (top 127)))
@[reducible] noncomputable def B99 : List Stmt := ext9 (b := _ :: _) (w9 (fnB (top 128)))
@[reducible] noncomputable def P99 : Arguments := ext9 (b := ⟨_, _, _, _, _, _, _⟩) (w9 (fnP (top 128)))
@[reducible] noncomputable def Sc99 : Scope := ext9 (b := ⟨_, _, _, _, _⟩) (w9 (fnSc (top 128)))
@[reducible] noncomputable def B100 : List Stmt := ext9 (b := _ :: _) (w9 (fnB (top 129)))
@[reducible] noncomputable def P100 : Arguments := ext9 (b := ⟨_, _, _, _, _, _, _⟩) (w9 (fnP (top 129)))
@[reducible] noncomputable def Sc100 : Scope := ext9 (b := ⟨_, _, _, _, _⟩) (w9 (fnSc (top 129)))
@[reducible] noncomputable def B101 : List Stmt := ext9 (b := _ :: _) (w9 (fnB (sub (top 131) 0)))
@[reducible] noncomputable def P101 : Arguments := ext9 (b := ⟨_, _, _, _, _, _, _⟩) (w9 (fnP (sub (top 131) 0)))
@[reducible] noncomputable def Sc101 : Scope := ext9 (b := ⟨_, _, _, _, _⟩) (w9 (fnSc (sub (top 131) 0)))
@[reducible] noncomputable def B102 : List Stmt := ext9 (b := _ :: _) (w9 (fnB (sub (top 131) 1)))
@[reducible] noncomputable def P102 : Arguments := ext9 (b := ⟨_, _, _, _, _, _, _⟩) (w9 (fnP (sub (top 131) 1)))
@[reducible] noncomputable def Sc102 : Scope := ext9 (b := ⟨_, _, _, _, _⟩) (w9 (fnSc (sub (top 131) 1)))
@[reducible] noncomputable def B103 : List Stmt := ext9 (b := _ :: _) (w9 (fnB (sub (top 131) 2)))
@[reducible] noncomputable def P103 : Arguments := ext9 (b := ⟨_, _, _, _, _, _, _⟩) (w9 (fnP (sub (top 131) 2)))
@[reducible] noncomputable def Sc103 : Scope := ext9 (b := ⟨_, _, _, _, _⟩) (w9 (fnSc (sub (top 131) 2)))
@[reducible] noncomputable def B104 : List Stmt := ext9 (b := _ :: _) (w9 (fnB (sub (top 131) 3)))
@[reducible] noncomputable def P104 : Arguments := ext9 (b := ⟨_, _, _, _, _, _, _⟩) (w9 (fnP (sub (top 131) 3)))
@[reducible] noncomputable def Sc104 : Scope := ext9 (b := ⟨_, _, _, _, _⟩) (w9 (fnSc (sub (top 131) 3)))
@[reducible] noncomputable def B105 : List Stmt := ext9 (b := _ :: _) (w9 (fnB (sub (top 131) 4)))
@[reducible] noncomputable def P105 : Arguments := ext9 (b := ⟨_, _, _, _, _, _, _⟩) (w9 (fnP (sub (top 131) 4)))
@[reducible] noncomputable def Sc105 : Scope := ext9 (b := ⟨_, _, _, _, _⟩) (w9 (fnSc (sub (top 131) 4)))
@[reducible] noncomputable def B106 : List Stmt := ext9 (b := _ :: _) (w9 (fnB (sub (top 131) 5)))
@[reducible] noncomputable def P106 : Arguments := ext9 (b := ⟨_, _, _, _, _, _, _⟩) (w9 (fnP (sub (top 131) 5)))
@[reducible] noncomputable def Sc106 : Scope := ext9 (b := ⟨_, _, _, _, _⟩) (w9 (fnSc (sub (top 131) 5)))
@[reducible] noncomputable def B107 : List Stmt := ext9 (b := _ :: _) (w9 (fnB (sub (top 131) 6)))
@[reducible] noncomputable def P107 : Arguments := ext9 (b := ⟨_, _, _, _, _, _, _⟩) (w9 (fnP (sub (top 131) 6)))
@[reducible] noncomputable def Sc107 : Scope := ext9 (b := ⟨_, _, _, _, _⟩) (w9 (fnSc (sub (top 131) 6)))
@[reducible] noncomputable def B108 : List Stmt := ext9 (b := _ :: _) (w9 (fnB (sub (top 131) 7)))
@[reducible] noncomputable def P108 : Arguments := ext9 (b := ⟨_, _, _, _, _, _, _⟩) (w9 (fnP (sub (top 131) 7)))
@[reducible] noncomputable def Sc108 : Scope := ext9 (b := ⟨_, _, _, _, _⟩) (w9 (fnSc (sub (top 131) 7)))
@[reducible] noncomputable def B109 : List Stmt := ext9 (b := _ :: _) (w9 (fnB (sub (top 131) 8)))
@[reducible] noncomputable def P109 : Arguments := ext9 (b := ⟨_, _, _, _, _, _, _⟩) (w9 (fnP (sub (top 131) 8)))
@[reducible] noncomputable def Sc109 : Scope := ext9 (b := ⟨_, _, _, _, _⟩) (w9 (fnSc (sub (top 131) 8)))
@[reducible] noncomputable def B110 : List Stmt := ext9 (b := _ :: _) (w9 (fnB (sub (top 131) 9)))
@[reducible] noncomputable def P110 : Arguments := ext9 (b := ⟨_, _, _, _, _, _, _⟩) (w9 (fnP (sub (top 131) 9)))
@[reducible] noncomputable def Sc110 : Scope := ext9 (b := ⟨_, _, _, _, _⟩) (w9 (fnSc (sub (top 131) 9)))
@[reducible] noncomputable def B111 : List Stmt := ext9 (b := _ :: _) (w9 (fnB (sub (top 131) 10)))
@[reducible] noncomputable def P111 : Arguments := ext9 (b := ⟨_, _, _, _, _, _, _⟩) (w9 (fnP (sub (top 131) 10)))
@[reducible] noncomputable def Sc111 : Scope := ext9 (b := ⟨_, _, _, _, _⟩) (w9 (fnSc (sub (top 131) 10)))
@[reducible] noncomputable def B112 : List Stmt := ext9 (b := _ :: _) (w9 (fnB (sub (top 131) 11)))
@[reducible] noncomputable def P112 : Arguments := ext9 (b := ⟨_, _, _, _, _, _, _⟩) (w9 (fnP (sub (top 131) 11)))
@[reducible] noncomputable def Sc112 : Scope := ext9 (b := ⟨_, _, _, _, _⟩) (w9 (fnSc (sub (top 131) 11)))
@[reducible] noncomputable def B113 : List Stmt := ext9 (b := _ :: _) (w9 (fnB (sub (top 133) 0)))
@[reducible] noncomputable def P113 : Arguments := ext9 (b := ⟨_, _, _, _, _, _, _⟩) (w9 (fnP (sub (top 133) 0)))
@[reducible] noncomputable def Sc113 : Scope := ext9 (b := ⟨_, _, _, _, _⟩) (w9 (fnSc (sub (top 133) 0)))
@[reducible] noncomputable def B114 : List Stmt := ext9 (b := _ :: _) (w9 (fnB (top 135)))
@[reducible] noncomputable def P114 : Arguments := ext9 (b := ⟨_, _, _, _, _, _, _⟩) (w9 (fnP (top 135)))
@[reducible] noncomputable def Sc114 : Scope := ext9 (b := ⟨_, _, _, _, _⟩) (w9 (fnSc (top 135)))
@[reducible] noncomputable def B115 : List Stmt := ext9 (b := _ :: _) (w9 (fnB (top 136)))
@[reducible] noncomputable def P115 : Arguments := ext9 (b := ⟨_, _, _, _, _, _, _⟩) (w9 (fnP (top 136)))
@[reducible] noncomputable def Sc115 : Scope := ext9 (b := ⟨_, _, _, _, _⟩) (w9 (fnSc (top 136)))
@[reducible] noncomputable def B116 : List Stmt := ext9 (b := _ :: _) (w9 (fnB (top 137)))
@[reducible] noncomputable def P116 : Arguments := ext9 (b := ⟨_, _, _, _, _, _, _⟩) (w9 (fnP (top 137)))
@[reducible] noncomputable def Sc116 : Scope := ext9 (b := ⟨_, _, _, _, _⟩) (w9 (fnSc (top 137)))
@[reducible] noncomputable def B117 : List Stmt := ext9 (b := _ :: _) (w9 (fnB (top 138)))
@[reducible] noncomputable def P117 : Arguments := ext9 (b := ⟨_, _, _, _, _, _, _⟩) (w9 (fnP (top 138)))
@[reducible] noncomputable def Sc117 : Scope := ext9 (b := ⟨_, _, _, _, _⟩) (w9 (fnSc (top 138)))
@[reducible] noncomputable def B118 : List Stmt := ext9 (b := _ :: _) (w9 (fnB (top 139)))
@[reducible] noncomputable def P118 : Arguments := ext9 (b := ⟨_, _, _, _, _, _, _⟩) (w9 (fnP (top 139)))
@[reducible] noncomputable def Sc118 : Scope := ext9 (b := ⟨_, _, _, _, _⟩) (w9 (fnSc (top 139)))
@[reducible] noncomputable def B119 : List Stmt := ext9 (b := _ :: _) (w9 (fnB (top 140)))
@[reducible] noncomputable def P119 : Arguments := ext9 (b := ⟨_, _, _, _, _, _, _⟩) (w9 (fnP (top 140)))
@[reducible] noncomputable def Sc119 : Scope := ext9 (b := ⟨_, _, _, _, _⟩) (w9 (fnSc (top 140)))
-- the states
noncomputable def o0 (P : Params) : Obj := Obj.mk (.type "dict") none (.dict ([E P "__name__" 1 (.str (Str.ofString "builtins") 160), E P "__doc__" 2 (.builtin "builtins.__doc__:str#opaque"), E P "__package__" 3 (.builtin "builtins.__package__:str#opaque"), E P "__loader__" 4 (.builtin "builtins.__loader__:shared#opaque"), E P "__spec__" 5 (.builtin "builtins.__spec__#opaque"), E P "__build_class__" 6 (.builtin "__build_class__"), E P "__import__" 7 (.builtin "__import__"), E P "abs" 8 (.builtin "abs"), E P "all" 9 (.builtin "all"), E P "any" 10 (.builtin "any"), E P "ascii" 11 (.builtin "ascii"), E P "bin" 12 (.builtin "bin"), E P "breakpoint" 13 (.builtin "breakpoint"), E P "callable" 14 (.builtin "callable"), E P "chr" 15 (.builtin "chr"), E P "compile" 16 (.builtin "compile"), E P "delattr" 17 (.builtin "delattr"), E P "dir" 18 (.builtin "dir"), E P "divmod" 19 (.builtin "divmod"), E P "eval" 20 (.builtin "eval"), E P "exec" 21 (.builtin "exec"), E P "format" 22 (.builtin "format"), E P "getattr" 23 (.builtin "getattr"), E P "globals" 24 (.builtin "globals"), E P "hasattr" 25 (.builtin "hasattr"), E P "hash" 26 (.builtin "hash"), E P "hex" 27 (.builtin "hex"), E P "id" 28 (.builtin "id"), E P "input" 29 (.builtin "input"), E P "isinstance" 30 (.builtin "isinstance"), E P "issubclass" 31 (.builtin "issubclass"), E P "iter" 32 (.builtin "iter"), E P "aiter" 33 (.builtin "aiter"), E P "len" 34 (.builtin "len"), E P "locals" 35 (.builtin "locals"), E P "max" 36 (.builtin "max"), E P "min" 37 (.builtin "min"), E P "next" 38 (.builtin "next"), E P "anext" 39 (.builtin "anext"), E P "oct" 40 (.builtin "oct"), E P "ord" 41 (.builtin "ord"), E P "pow" 42 (.builtin "pow"), E P "print" 43 (.builtin "print"), E P "repr" 44 (.builtin "repr"), E P "round" 45 (.builtin "round"), E P "setattr" 46 (.builtin "setattr"), E P "sorted" 47 (.builtin "sorted"), E P "sum" 48 (.builtin "sum"), E P "vars" 49 (.builtin "vars"), E P "None" 50 .none, E P "Ellipsis" 51 .ellipsis, E P "NotImplemented" 52 .notImplemented, E P "False" 53 (.bool false), E P "True" 54 (.bool true), E P "bool" 55 (.type "bool"), E P "memoryview" 56 (.type "memoryview"), E P "bytearray" 57 (.type "bytearray"), E P "bytes" 58 (.type "bytes"), E P "classmethod" 59 (.type "classmethod"), E P "complex" 60 (.type "complex"), E P "dict" 61 (.type "dict"), E P "enumerate" 62 (.type "enumerate"), E P "filter" 63 (.type "filter"), E P "float" 64 (.type "float"), E P "frozenset" 65 (.type "frozenset"), E P "property" 66 (.type "property"), E P "int" 67 (.type "int"), E P "list" 68 (.type "list"), E P "map" 69 (.type "map"), E P "object" 70 (.type "object"), E P "range" 71 (.type "range"), E P "reversed" 72 (.type "reversed"), E P "set" 73 (.type "set"), E P "slice" 74 (.type "slice"), E P "staticmethod" 75 (.type "staticmethod"), E P "str" 76 (.type "str"), E P "super" 77 (.type "super"), E P "tuple" 78 (.type "tuple"), E P "type" 79 (.type "type"), E P "zip" 80 (.type "zip"), E P "__debug__" 81 (.bool true), E P "BaseException" 82 (.type "BaseException"), E P "BaseExceptionGroup" 83 (.type "BaseExceptionGroup"), E P "Exception" 84 (.type "Exception"), E P "GeneratorExit" 85 (.type "GeneratorExit"), E P "KeyboardInterrupt" 86 (.type "KeyboardInterrupt"), E P "SystemExit" 87 (.type "SystemExit"), E P "ArithmeticError" 88 (.type "ArithmeticError"), E P "AssertionError" 89 (.type "AssertionError"), E P "AttributeError" 90 (.type "AttributeError"), E P "BufferError" 91 (.type "BufferError"), E P "EOFError" 92 (.type "EOFError"), E P "ImportError" 93 (.type "ImportError"), E P "LookupError" 94 (.type "LookupError"), E P "MemoryError" 95 (.type "MemoryError"), E P "NameError" 96 (.type "NameError"), E P "OSError" 97 (.type "OSError"), E P "ReferenceError" 98 (.type "ReferenceError"), E P "RuntimeError" 99 (.type "RuntimeError"), E P "StopAsyncIteration" 100 (.type "StopAsyncIteration"), E P "StopIteration" 101 (.type "StopIteration"), E P "SyntaxError" 102 (.type "SyntaxError"), E P "SystemError" 103 (.type "SystemError"), E P "TypeError" 104 (.type "TypeError"), E P "ValueError" 105 (.type "ValueError"), E P "Warning" 106 (.type "Warning"), E P "FloatingPointError" 107 (.type "FloatingPointError"), E P "OverflowError" 108 (.type "OverflowError"), E P "ZeroDivisionError" 109 (.type "ZeroDivisionError"), E P "BytesWarning" 110 (.type "BytesWarning"), E P "DeprecationWarning" 111 (.type "DeprecationWarning"), E P "EncodingWarning" 112 (.type "EncodingWarning"), E P "FutureWarning" 113 (.type "FutureWarning"), E P "ImportWarning" 114 (.type "ImportWarning"), E P "PendingDeprecationWarning" 115 (.type "PendingDeprecationWarning"), E P "ResourceWarning" 116 (.type "ResourceWarning"), E P "RuntimeWarning" 117 (.type "RuntimeWarning"), E P "SyntaxWarning" 118 (.type "SyntaxWarning"), E P "UnicodeWarning" 119 (.type "UnicodeWarning"), E P "UserWarning" 120 (.type "UserWarning"), E P "BlockingIOError" 121 (.type "BlockingIOError"), E P "ChildProcessError" 122 (.type "ChildProcessError"), E P "ConnectionError" 123 (.type "ConnectionError"), E P "FileExistsError" 124 (.type "FileExistsError"), E P "FileNotFoundError" 125 (.type "FileNotFoundError"), E P "InterruptedError" 126 (.type "InterruptedError"), E P "IsADirectoryError" 127 (.type "IsADirectoryError"), E P "NotADirectoryError" 128 (.type "NotADirectoryError"), E P "PermissionError" 129 (.type "PermissionError"), E P "ProcessLookupError" 130 (.type "ProcessLookupError"), E P "TimeoutError" 131 (.type "TimeoutError"), E P "IndentationError" 132 (.type "IndentationError"), E P "_IncompleteInputError" 133 (.type "_IncompleteInputError"), E P "IndexError" 134 (.type "IndexError"), E P "KeyError" 135 (.type "KeyError"), E P "ModuleNotFoundError" 136 (.type "ModuleNotFoundError"), E P "NotImplementedError" 137 (.type "NotImplementedError"), E P "PythonFinalizationError" 138 (.type "PythonFinalizationError"), E P "RecursionError" 139 (.type "RecursionError"), E P "UnboundLocalError" 140 (.type "UnboundLocalError"), E P "UnicodeError" 141 (.type "UnicodeError"), E P "BrokenPipeError" 142 (.type "BrokenPipeError"), E P "ConnectionAbortedError" 143 (.type "ConnectionAbortedError"), E P "ConnectionRefusedError" 144 (.type "ConnectionRefusedError"), E P "ConnectionResetError" 145 (.type "ConnectionResetError"), E P "TabError" 146 (.type "TabError"), E P "UnicodeDecodeError" 147 (.type "UnicodeDecodeError"), E P "UnicodeEncodeError" 148 (.type "UnicodeEncodeError"), E P "UnicodeTranslateError" 149 (.type "UnicodeTranslateError"), E P "ExceptionGroup" 150 (.type "ExceptionGroup"), E P "EnvironmentError" 151 (.type "OSError"), E P "IOError" 152 (.type "OSError"), E P "open" 153 (.builtin "open"), E P "quit" 154 (.builtin "builtins.quit#opaque"), E P "exit" 155 (.builtin "builtins.exit#opaque"), E P "copyright" 156 (.builtin "builtins.copyright#opaque"), E P "credits" 157 (.builtin "builtins.credits#opaque"), E P "license" 158 (.builtin "builtins.license#opaque"), E P "help" 159 (.builtin "builtins.help#opaque")] : List DictEntry).toArray 159) #[]
noncomputable def o1 (P : Params) : Obj := Obj.mk (.type "dict") none (.dict ([E P "builtins" 162 (.ref 4), E P "__main__" 163 (.ref 5)] : List DictEntry).toArray 2) #[]
noncomputable def o2 (P : Params) : Obj := Obj.mk .none none (.dict ([] : List DictEntry).toArray 0) #[]
noncomputable def o3 (P : Params) : Obj := Obj.mk (.type "dict") none (.dict ([E P "__name__" 165 (.str (Str.ofString "__main__") 164), E P "__doc__" 166 .none, E P "__package__" 167 .none, E P "__loader__" 168 (.builtin "__main__.__loader__#opaque"), E P "__spec__" 169 .none, E P "__annotations__" 170 (.ref 6), E P "__builtins__" 171 (.ref 4), E P "__file__" 173 (.str (Str.ofString "/claim/cut.py") 172), E P "__cached__" 174 .none] : List DictEntry).toArray 9) #[]
noncomputable def o4 (P : Params) : Obj := Obj.mk (.type "module") (some 0) .plain #[]
noncomputable def o5 (P : Params) : Obj := Obj.mk (.type "module") (some 3) .plain #[]
noncomputable def o6 (P : Params) : Obj := Obj.mk (.type "dict") none (.dict ([] : List DictEntry).toArray 0) #[]
noncomputable def o7 (P : Params) : Obj := Obj.mk (.type "tuple") none (.seq [].toArray 0) #[]
noncomputable def o8 (P : Params) : Obj := Obj.mk .none none (.fields [].toArray) #[]
noncomputable def o9 (P : Params) : Obj := Obj.mk (.type "code") none (.fields [(.str (Str.ofString "<module>") 176), (.str (Str.ofString "<module>") 177), (.str (Str.ofString "/claim/cut.py") 178), (.int 1 0), (.int 0 0), (.int 0 0), (.int 0 0), (.int 0 0), (.ref 7), (.bool false), (.int 175 0), (.ref 8), .none, .none, .none, .none, (.int 179 0), (.int 1 0), (.str (Str.ofString "/claim/cut.py") 180)].toArray) #[]
noncomputable def o10 (P : Params) : Obj := Obj.mk (.type "frame") none .plain [(some (.ref 9)), (some (.ref 3)), (some (.ref 3)), none, (some (.str (Str.ofString "__main__") 164)), none, (some (.ref 0))].toArray
noncomputable def o11 (P : Params) : Obj := Obj.mk (.type "tuple") none (.seq [].toArray 0) #[]
noncomputable def o12 (P : Params) : Obj := Obj.mk .none none (.fields [].toArray) #[]
noncomputable def o13 (P : Params) : Obj := Obj.mk (.type "code") none (.fields [(.str (Str.ofString "<module>") 182), (.str (Str.ofString "<module>") 183), (.str (Str.ofString "/claim/cut.py") 184), (.int 1 0), (.int 0 0), (.int 0 0), (.int 0 0), (.int 0 0), (.ref 11), (.bool false), (.int 181 0), (.ref 12), .none, .none, .none, .none, (.int 185 0), (.int 1 0), (.str (Str.ofString "/claim/cut.py") 186)].toArray) #[]
noncomputable def o14 (P : Params) : Obj := Obj.mk (.type "frame") none .plain [(some (.ref 13)), (some (.ref 3)), (some (.ref 3)), none, (some (.str (Str.ofString "__main__") 164)), none, (some (.ref 0))].toArray
noncomputable def T0 (P : Params) : BT := (((((((((((((((BT.nil.ins 0 (o0 P)).ins 1 (o1 P)).ins 2 (o2 P)).ins 3 (o3 P)).ins 4 (o4 P)).ins 5 (o5 P)).ins 6 (o6 P)).ins 7 (o7 P)).ins 8 (o8 P)).ins 9 (o9 P)).ins 10 (o10 P)).ins 11 (o11 P)).ins 12 (o12 P)).ins 13 (o13 P)).ins 14 (o14 P))
noncomputable def d3v1 (P : Params) : List DictEntry := [E P "_wall" 193 (.ref 21), E P "Thing" 229 (.ref 38)]
noncomputable def n3v1 (P : Params) : List DictEntry := d3v1 P
noncomputable def o3v1 (P : Params) : Obj := Obj.mk (.type "dict") none (.dict ([E P "__name__" 165 (.str (Str.ofString "perlcore.values") 194), E P "__doc__" 166 .none, E P "__package__" 167 .none, E P "__loader__" 168 (.builtin "__main__.__loader__#opaque"), E P "__spec__" 169 .none, E P "__annotations__" 170 (.ref 6), E P "__builtins__" 171 (.ref 4), E P "__file__" 173 (.str (Str.ofString "/claim/cut.py") 172), E P "__cached__" 174 .none] ++ n3v1 P : List DictEntry).toArray 11) #[]
noncomputable def d12v1 : List Value := [(.int 1 0), (.int 0 0), (.ref 20), (.int 5 0), (.int 0 0), (.ref 27)]
noncomputable def n12v1 : List Value := d12v1
noncomputable def o12v1 (P : Params) : Obj := Obj.mk .none none (.fields (n12v1).toArray) #[]
noncomputable def o15 (P : Params) : Obj := Obj.mk (.type "tuple") none (.seq [].toArray 0) #[]
noncomputable def o16 (P : Params) : Obj := Obj.mk .none none (.fields [].toArray) #[]
noncomputable def o17 (P : Params) : Obj := Obj.mk (.type "tuple") none (.seq [(.str (Str.ofString "k") 190)].toArray 0) #[]
noncomputable def o18 (P : Params) : Obj := Obj.mk (.type "tuple") none (.seq [].toArray 0) #[]
noncomputable def o19 (P : Params) : Obj := Obj.mk .none none (.func (FuncData.mk (Str.ofString "_wall") (Str.ofString "_wall") P0 (.stmts B0) Sc0 0 [] .none .none .none .none none .none .none 0)) #[]
noncomputable def o20 (P : Params) : Obj := Obj.mk (.type "code") none (.fields [(.str (Str.ofString "_wall") 187), (.str (Str.ofString "_wall") 188), (.str (Str.ofString "/claim/cut.py") 189), (.int 1 0), (.int 1 0), (.int 0 0), (.int 0 0), (.int 3 0), (.ref 15), (.bool true), (.int 181 0), (.ref 16), .none, (.ref 17), (.ref 18), (.ref 19), (.int 191 0), (.int 1 0), (.str (Str.ofString "/claim/cut.py") 192)].toArray) #[]
noncomputable def o21 (P : Params) : Obj := Obj.mk (.type "function") none (.func (FuncData.mk (Str.ofString "_wall") (Str.ofString "_wall") P0 (.stmts B0) Sc0 3 [] .none .none .none (.str (Str.ofString "__main__") 164) none (.ref 20) .none 0)) #[]
noncomputable def o22 (P : Params) : Obj := Obj.mk (.type "tuple") none (.seq [].toArray 0) #[]
noncomputable def o23 (P : Params) : Obj := Obj.mk (.type "builtin_function_or_method") none (.fields [(.builtin "type.__prepare__"), (.type "type")].toArray) #[]
noncomputable def o24 (P : Params) : Obj := Obj.mk (.type "dict") none (.dict ([E P "__module__" 203 (.str (Str.ofString "perlcore.values") 194), E P "__qualname__" 205 (.str (Str.ofString "Thing") 204), E P "__firstlineno__" 207 (.int 5 206), E P "__init__" 215 (.ref 35), E P "__static_attributes__" 222 (.ref 36)] : List DictEntry).toArray 5) #[]
noncomputable def o25 (P : Params) : Obj := Obj.mk (.type "tuple") none (.seq [].toArray 0) #[]
noncomputable def o26 (P : Params) : Obj := Obj.mk .none none (.fields [(.int 7 0), (.int 4 0), (.ref 34)].toArray) #[]
noncomputable def o27 (P : Params) : Obj := Obj.mk (.type "code") none (.fields [(.str (Str.ofString "Thing") 198), (.str (Str.ofString "Thing") 199), (.str (Str.ofString "/claim/cut.py") 200), (.int 5 0), (.int 0 0), (.int 0 0), (.int 0 0), (.int 0 0), (.ref 25), (.bool false), (.int 181 0), (.ref 26), .none, .none, .none, .none, (.int 201 0), (.int 5 0), (.str (Str.ofString "/claim/cut.py") 202)].toArray) #[]
noncomputable def o28 (P : Params) : Obj := Obj.mk (.type "frame") none .plain [(some (.ref 27)), (some (.ref 3)), (some (.ref 24)), none, (some (.str (Str.ofString "perlcore.values") 194)), none, (some (.ref 0))].toArray
noncomputable def o29 (P : Params) : Obj := Obj.mk (.type "tuple") none (.seq [].toArray 0) #[]
noncomputable def o30 (P : Params) : Obj := Obj.mk .none none (.fields [].toArray) #[]
noncomputable def o31 (P : Params) : Obj := Obj.mk (.type "tuple") none (.seq [(.str (Str.ofString "self") 211), (.str (Str.ofString "number") 212)].toArray 0) #[]
noncomputable def o32 (P : Params) : Obj := Obj.mk (.type "tuple") none (.seq [].toArray 0) #[]
noncomputable def o33 (P : Params) : Obj := Obj.mk .none none (.func (FuncData.mk (Str.ofString "__init__") (Str.ofString "Thing.__init__") P1 (.stmts B1) Sc1 0 [] .none .none .none .none none .none .none 0)) #[]
noncomputable def o34 (P : Params) : Obj := Obj.mk (.type "code") none (.fields [(.str (Str.ofString "__init__") 208), (.str (Str.ofString "Thing.__init__") 209), (.str (Str.ofString "/claim/cut.py") 210), (.int 7 0), (.int 2 0), (.int 0 0), (.int 0 0), (.int 3 0), (.ref 29), (.bool true), (.int 181 0), (.ref 30), .none, (.ref 31), (.ref 32), (.ref 33), (.int 213 0), (.int 7 0), (.str (Str.ofString "/claim/cut.py") 214)].toArray) #[]
noncomputable def o35 (P : Params) : Obj := Obj.mk (.type "function") none (.func (FuncData.mk (Str.ofString "__init__") (Str.ofString "Thing.__init__") P1 (.stmts B1) Sc1 3 [] .none .none .none (.str (Str.ofString "perlcore.values") 194) none (.ref 34) .none 0)) #[]
noncomputable def o36 (P : Params) : Obj := Obj.mk (.type "tuple") none (.seq [(.str (Str.ofString "blessed") 216), (.str (Str.ofString "count") 217), (.str (Str.ofString "is_destroyed") 218), (.str (Str.ofString "is_freed") 219), (.str (Str.ofString "number") 220), (.str (Str.ofString "weak") 221)].toArray 0) #[]
noncomputable def o37 (P : Params) : Obj := Obj.mk (.type "dict") none (.dict ([E P "__module__" 203 (.str (Str.ofString "perlcore.values") 194), E P "__firstlineno__" 207 (.int 5 206), E P "__init__" 215 (.ref 35), E P "__static_attributes__" 222 (.ref 36), E P "__dict__" 224 (.ref 39), E P "__weakref__" 226 (.ref 40), E P "__doc__" 227 .none] : List DictEntry).toArray 4) #[]
noncomputable def o38 (P : Params) : Obj := Obj.mk (.type "type") none (.cls (ClassData.mk (Str.ofString "Thing") [(.type "object")] [(.ref 38), (.type "object")] 37 (Str.ofString "Thing") true [] [] false none false)) [none, none, (some (.str (Str.ofString "Thing") 196)), (some (.str (Str.ofString "Thing") 204)), (some (.builtin "object.__new__")), (some (.bool true))].toArray
noncomputable def o39 (P : Params) : Obj := Obj.mk (.type "getset_descriptor") none (.fields [(.str (Str.ofString "__dict__") 223), (.ref 38), (.builtin "function.__dict__"), (.builtin "function.__dict__#set")].toArray) #[]
noncomputable def o40 (P : Params) : Obj := Obj.mk (.type "getset_descriptor") none (.fields [(.str (Str.ofString "__weakref__") 225), (.ref 38), (.builtin "ExceptionGroup.__weakref__"), .none].toArray) #[]
noncomputable def o41 (P : Params) : Obj := Obj.mk (.type "super") none (.fields [(.ref 38), (.ref 38), (.ref 38)].toArray) #[]
noncomputable def o42 (P : Params) : Obj := Obj.mk (.type "builtin_function_or_method") none (.fields [(.builtin "object.__init_subclass__"), (.ref 38)].toArray) #[]
noncomputable def T1 (P : Params) : BT := (((((((((((((((((((((((((((((((T0 P).ins 3 (o3v1 P)).ins 12 (o12v1 P)).ins 15 (o15 P)).ins 16 (o16 P)).ins 17 (o17 P)).ins 18 (o18 P)).ins 19 (o19 P)).ins 20 (o20 P)).ins 21 (o21 P)).ins 22 (o22 P)).ins 23 (o23 P)).ins 24 (o24 P)).ins 25 (o25 P)).ins 26 (o26 P)).ins 27 (o27 P)).ins 28 (o28 P)).ins 29 (o29 P)).ins 30 (o30 P)).ins 31 (o31 P)).ins 32 (o32 P)).ins 33 (o33 P)).ins 34 (o34 P)).ins 35 (o35 P)).ins 36 (o36 P)).ins 37 (o37 P)).ins 38 (o38 P)).ins 39 (o39 P)).ins 40 (o40 P)).ins 41 (o41 P)).ins 42 (o42 P))
@[reducible] noncomputable def sts0 : List Stmt := (bodyE.drop 0).take 3
theorem q0 : ∀ w : World, (fun os => sgT w 266 ⟨T0 w.params, 15, {}, ⟨[]⟩, {}, 187, os⟩ (thr sts0 ⟨0, 0, 0, 0⟩)) = fun os => some (Flow.next, ⟨T1 w.params, 43, {}, ⟨[]⟩, {}, 230, os⟩, cE, ⟨5, 0, 13, 29⟩) := fun w => by kernel_rfl
noncomputable def d3v2 (P : Params) : List DictEntry := [E P "Scalar" 256 (.ref 59)]
noncomputable def n3v2 (P : Params) : List DictEntry := d3v1 P ++ d3v2 P
noncomputable def o3v2 (P : Params) : Obj := Obj.mk (.type "dict") none (.dict ([E P "__name__" 165 (.str (Str.ofString "perlcore.values") 194), E P "__doc__" 166 .none, E P "__package__" 167 .none, E P "__loader__" 168 (.builtin "__main__.__loader__#opaque"), E P "__spec__" 169 .none, E P "__annotations__" 170 (.ref 6), E P "__builtins__" 171 (.ref 4), E P "__file__" 173 (.str (Str.ofString "/claim/cut.py") 172), E P "__cached__" 174 .none] ++ n3v2 P : List DictEntry).toArray 12) #[]
noncomputable def d12v2 : List Value := [(.int 14 0), (.int 0 0), (.ref 48)]
noncomputable def n12v2 : List Value := d12v1 ++ d12v2
noncomputable def o12v2 (P : Params) : Obj := Obj.mk .none none (.fields (n12v2).toArray) #[]
noncomputable def o38v2 (P : Params) : Obj := Obj.mk (.type "type") none (.cls (ClassData.mk (Str.ofString "Thing") [(.type "object")] [(.ref 38), (.type "object")] 37 (Str.ofString "Thing") true [] [(.ref 59)] false none false)) [none, none, (some (.str (Str.ofString "Thing") 196)), (some (.str (Str.ofString "Thing") 204)), (some (.builtin "object.__new__")), (some (.bool true))].toArray
noncomputable def o43 (P : Params) : Obj := Obj.mk (.type "tuple") none (.seq [(.ref 38)].toArray 0) #[]
noncomputable def o44 (P : Params) : Obj := Obj.mk (.type "builtin_function_or_method") none (.fields [(.builtin "type.__prepare__"), (.type "type")].toArray) #[]
noncomputable def o45 (P : Params) : Obj := Obj.mk (.type "dict") none (.dict ([E P "__module__" 237 (.str (Str.ofString "perlcore.values") 194), E P "__qualname__" 239 (.str (Str.ofString "Scalar") 238), E P "__firstlineno__" 241 (.int 14 240), E P "__init__" 250 (.ref 56), E P "__static_attributes__" 253 (.ref 57)] : List DictEntry).toArray 5) #[]
noncomputable def o46 (P : Params) : Obj := Obj.mk (.type "tuple") none (.seq [].toArray 0) #[]
noncomputable def o47 (P : Params) : Obj := Obj.mk .none none (.fields [(.int 16 0), (.int 4 0), (.ref 55)].toArray) #[]
noncomputable def o48 (P : Params) : Obj := Obj.mk (.type "code") none (.fields [(.str (Str.ofString "Scalar") 232), (.str (Str.ofString "Scalar") 233), (.str (Str.ofString "/claim/cut.py") 234), (.int 14 0), (.int 0 0), (.int 0 0), (.int 0 0), (.int 0 0), (.ref 46), (.bool false), (.int 181 0), (.ref 47), .none, .none, .none, .none, (.int 235 0), (.int 14 0), (.str (Str.ofString "/claim/cut.py") 236)].toArray) #[]
noncomputable def o49 (P : Params) : Obj := Obj.mk (.type "frame") none .plain [(some (.ref 48)), (some (.ref 3)), (some (.ref 45)), none, (some (.str (Str.ofString "perlcore.values") 194)), none, (some (.ref 0))].toArray
noncomputable def o50 (P : Params) : Obj := Obj.mk (.type "tuple") none (.seq [].toArray 0) #[]
noncomputable def o51 (P : Params) : Obj := Obj.mk .none none (.fields [].toArray) #[]
noncomputable def o52 (P : Params) : Obj := Obj.mk (.type "tuple") none (.seq [(.str (Str.ofString "self") 245), (.str (Str.ofString "number") 246), (.str (Str.ofString "value") 247)].toArray 0) #[]
noncomputable def o53 (P : Params) : Obj := Obj.mk (.type "tuple") none (.seq [].toArray 0) #[]
noncomputable def o54 (P : Params) : Obj := Obj.mk .none none (.func (FuncData.mk (Str.ofString "__init__") (Str.ofString "Scalar.__init__") P2 (.stmts B2) Sc2 0 [] .none .none .none .none none .none .none 0)) #[]
noncomputable def o55 (P : Params) : Obj := Obj.mk (.type "code") none (.fields [(.str (Str.ofString "__init__") 242), (.str (Str.ofString "Scalar.__init__") 243), (.str (Str.ofString "/claim/cut.py") 244), (.int 16 0), (.int 3 0), (.int 0 0), (.int 0 0), (.int 3 0), (.ref 50), (.bool true), (.int 181 0), (.ref 51), .none, (.ref 52), (.ref 53), (.ref 54), (.int 248 0), (.int 16 0), (.str (Str.ofString "/claim/cut.py") 249)].toArray) #[]
noncomputable def o56 (P : Params) : Obj := Obj.mk (.type "function") none (.func (FuncData.mk (Str.ofString "__init__") (Str.ofString "Scalar.__init__") P2 (.stmts B2) Sc2 3 [] .none .none .none (.str (Str.ofString "perlcore.values") 194) none (.ref 55) .none 0)) #[]
noncomputable def o57 (P : Params) : Obj := Obj.mk (.type "tuple") none (.seq [(.str (Str.ofString "magic") 251), (.str (Str.ofString "value") 252)].toArray 0) #[]
noncomputable def o58 (P : Params) : Obj := Obj.mk (.type "dict") none (.dict ([E P "__module__" 237 (.str (Str.ofString "perlcore.values") 194), E P "__firstlineno__" 241 (.int 14 240), E P "__init__" 250 (.ref 56), E P "__static_attributes__" 253 (.ref 57), E P "__doc__" 254 .none] : List DictEntry).toArray 2) #[]
noncomputable def o59 (P : Params) : Obj := Obj.mk (.type "type") none (.cls (ClassData.mk (Str.ofString "Scalar") [(.ref 38)] [(.ref 59), (.ref 38), (.type "object")] 58 (Str.ofString "Scalar") true [] [] false none false)) [(some (.ref 43)), none, (some (.str (Str.ofString "Scalar") 230)), (some (.str (Str.ofString "Scalar") 238)), (some (.builtin "object.__new__")), (some (.bool true))].toArray
noncomputable def o60 (P : Params) : Obj := Obj.mk (.type "super") none (.fields [(.ref 59), (.ref 59), (.ref 59)].toArray) #[]
noncomputable def o61 (P : Params) : Obj := Obj.mk (.type "builtin_function_or_method") none (.fields [(.builtin "object.__init_subclass__"), (.ref 59)].toArray) #[]
noncomputable def T2 (P : Params) : BT := (((((((((((((((((((((((T1 P).ins 3 (o3v2 P)).ins 12 (o12v2 P)).ins 38 (o38v2 P)).ins 43 (o43 P)).ins 44 (o44 P)).ins 45 (o45 P)).ins 46 (o46 P)).ins 47 (o47 P)).ins 48 (o48 P)).ins 49 (o49 P)).ins 50 (o50 P)).ins 51 (o51 P)).ins 52 (o52 P)).ins 53 (o53 P)).ins 54 (o54 P)).ins 55 (o55 P)).ins 56 (o56 P)).ins 57 (o57 P)).ins 58 (o58 P)).ins 59 (o59 P)).ins 60 (o60 P)).ins 61 (o61 P))
@[reducible] noncomputable def sts1 : List Stmt := (bodyE.drop 3).take 1
theorem q1 : ∀ w : World, (fun os => sgT w 248 ⟨T1 w.params, 43, {}, ⟨[]⟩, {}, 230, os⟩ (thr sts1 ⟨5, 0, 13, 29⟩)) = fun os => some (Flow.next, ⟨T2 w.params, 62, {}, ⟨[]⟩, {}, 257, os⟩, cE, ⟨14, 0, 19, 25⟩) := fun w => by kernel_rfl
noncomputable def d3v3 (P : Params) : List DictEntry := [E P "Ref" 287 (.ref 79)]
noncomputable def n3v3 (P : Params) : List DictEntry := d3v1 P ++ (d3v2 P ++ d3v3 P)
noncomputable def o3v3 (P : Params) : Obj := Obj.mk (.type "dict") none (.dict ([E P "__name__" 165 (.str (Str.ofString "perlcore.values") 194), E P "__doc__" 166 .none, E P "__package__" 167 .none, E P "__loader__" 168 (.builtin "__main__.__loader__#opaque"), E P "__spec__" 169 .none, E P "__annotations__" 170 (.ref 6), E P "__builtins__" 171 (.ref 4), E P "__file__" 173 (.str (Str.ofString "/claim/cut.py") 172), E P "__cached__" 174 .none] ++ n3v3 P : List DictEntry).toArray 13) #[]
noncomputable def d12v3 : List Value := [(.int 20 0), (.int 0 0), (.ref 67)]
noncomputable def n12v3 : List Value := d12v1 ++ (d12v2 ++ d12v3)
noncomputable def o12v3 (P : Params) : Obj := Obj.mk .none none (.fields (n12v3).toArray) #[]
noncomputable def o62 (P : Params) : Obj := Obj.mk (.type "tuple") none (.seq [].toArray 0) #[]
noncomputable def o63 (P : Params) : Obj := Obj.mk (.type "builtin_function_or_method") none (.fields [(.builtin "type.__prepare__"), (.type "type")].toArray) #[]
noncomputable def o64 (P : Params) : Obj := Obj.mk (.type "dict") none (.dict ([E P "__module__" 264 (.str (Str.ofString "perlcore.values") 194), E P "__qualname__" 266 (.str (Str.ofString "Ref") 265), E P "__firstlineno__" 268 (.int 20 267), E P "__init__" 277 (.ref 76), E P "__static_attributes__" 280 (.ref 77)] : List DictEntry).toArray 5) #[]
noncomputable def o65 (P : Params) : Obj := Obj.mk (.type "tuple") none (.seq [].toArray 0) #[]
noncomputable def o66 (P : Params) : Obj := Obj.mk .none none (.fields [(.int 22 0), (.int 4 0), (.ref 75)].toArray) #[]
noncomputable def o67 (P : Params) : Obj := Obj.mk (.type "code") none (.fields [(.str (Str.ofString "Ref") 259), (.str (Str.ofString "Ref") 260), (.str (Str.ofString "/claim/cut.py") 261), (.int 20 0), (.int 0 0), (.int 0 0), (.int 0 0), (.int 0 0), (.ref 65), (.bool false), (.int 181 0), (.ref 66), .none, .none, .none, .none, (.int 262 0), (.int 20 0), (.str (Str.ofString "/claim/cut.py") 263)].toArray) #[]
noncomputable def o68 (P : Params) : Obj := Obj.mk (.type "frame") none .plain [(some (.ref 67)), (some (.ref 3)), (some (.ref 64)), none, (some (.str (Str.ofString "perlcore.values") 194)), none, (some (.ref 0))].toArray
noncomputable def o69 (P : Params) : Obj := Obj.mk (.type "tuple") none (.seq [(.bool false)].toArray 0) #[]
noncomputable def o70 (P : Params) : Obj := Obj.mk (.type "tuple") none (.seq [].toArray 0) #[]
noncomputable def o71 (P : Params) : Obj := Obj.mk .none none (.fields [].toArray) #[]
noncomputable def o72 (P : Params) : Obj := Obj.mk (.type "tuple") none (.seq [(.str (Str.ofString "self") 272), (.str (Str.ofString "target") 273), (.str (Str.ofString "is_weak") 274)].toArray 0) #[]
noncomputable def o73 (P : Params) : Obj := Obj.mk (.type "tuple") none (.seq [].toArray 0) #[]
noncomputable def o74 (P : Params) : Obj := Obj.mk .none none (.func (FuncData.mk (Str.ofString "__init__") (Str.ofString "Ref.__init__") P3 (.stmts B3) Sc3 0 [] .none .none .none .none none .none .none 0)) #[]
noncomputable def o75 (P : Params) : Obj := Obj.mk (.type "code") none (.fields [(.str (Str.ofString "__init__") 269), (.str (Str.ofString "Ref.__init__") 270), (.str (Str.ofString "/claim/cut.py") 271), (.int 22 0), (.int 3 0), (.int 0 0), (.int 0 0), (.int 3 0), (.ref 70), (.bool true), (.int 181 0), (.ref 71), .none, (.ref 72), (.ref 73), (.ref 74), (.int 275 0), (.int 22 0), (.str (Str.ofString "/claim/cut.py") 276)].toArray) #[]
noncomputable def o76 (P : Params) : Obj := Obj.mk (.type "function") none (.func (FuncData.mk (Str.ofString "__init__") (Str.ofString "Ref.__init__") P3 (.stmts B3) Sc3 3 [] (.ref 69) .none .none (.str (Str.ofString "perlcore.values") 194) none (.ref 75) .none 0)) #[]
noncomputable def o77 (P : Params) : Obj := Obj.mk (.type "tuple") none (.seq [(.str (Str.ofString "is_weak") 278), (.str (Str.ofString "target") 279)].toArray 0) #[]
noncomputable def o78 (P : Params) : Obj := Obj.mk (.type "dict") none (.dict ([E P "__module__" 264 (.str (Str.ofString "perlcore.values") 194), E P "__firstlineno__" 268 (.int 20 267), E P "__init__" 277 (.ref 76), E P "__static_attributes__" 280 (.ref 77), E P "__dict__" 282 (.ref 80), E P "__weakref__" 284 (.ref 81), E P "__doc__" 285 .none] : List DictEntry).toArray 4) #[]
noncomputable def o79 (P : Params) : Obj := Obj.mk (.type "type") none (.cls (ClassData.mk (Str.ofString "Ref") [(.type "object")] [(.ref 79), (.type "object")] 78 (Str.ofString "Ref") true [] [] false none false)) [none, none, (some (.str (Str.ofString "Ref") 257)), (some (.str (Str.ofString "Ref") 265)), (some (.builtin "object.__new__")), (some (.bool true))].toArray
noncomputable def o80 (P : Params) : Obj := Obj.mk (.type "getset_descriptor") none (.fields [(.str (Str.ofString "__dict__") 281), (.ref 79), (.builtin "function.__dict__"), (.builtin "function.__dict__#set")].toArray) #[]
noncomputable def o81 (P : Params) : Obj := Obj.mk (.type "getset_descriptor") none (.fields [(.str (Str.ofString "__weakref__") 283), (.ref 79), (.builtin "ExceptionGroup.__weakref__"), .none].toArray) #[]
noncomputable def o82 (P : Params) : Obj := Obj.mk (.type "super") none (.fields [(.ref 79), (.ref 79), (.ref 79)].toArray) #[]
noncomputable def o83 (P : Params) : Obj := Obj.mk (.type "builtin_function_or_method") none (.fields [(.builtin "object.__init_subclass__"), (.ref 79)].toArray) #[]
noncomputable def T3 (P : Params) : BT := (((((((((((((((((((((((((T2 P).ins 3 (o3v3 P)).ins 12 (o12v3 P)).ins 62 (o62 P)).ins 63 (o63 P)).ins 64 (o64 P)).ins 65 (o65 P)).ins 66 (o66 P)).ins 67 (o67 P)).ins 68 (o68 P)).ins 69 (o69 P)).ins 70 (o70 P)).ins 71 (o71 P)).ins 72 (o72 P)).ins 73 (o73 P)).ins 74 (o74 P)).ins 75 (o75 P)).ins 76 (o76 P)).ins 77 (o77 P)).ins 78 (o78 P)).ins 79 (o79 P)).ins 80 (o80 P)).ins 81 (o81 P)).ins 82 (o82 P)).ins 83 (o83 P))
@[reducible] noncomputable def sts2 : List Stmt := (bodyE.drop 4).take 1
theorem q2 : ∀ w : World, (fun os => sgT w 226 ⟨T2 w.params, 62, {}, ⟨[]⟩, {}, 257, os⟩ (thr sts2 ⟨14, 0, 19, 25⟩)) = fun os => some (Flow.next, ⟨T3 w.params, 84, {}, ⟨[]⟩, {}, 288, os⟩, cE, ⟨20, 0, 24, 30⟩) := fun w => by kernel_rfl
noncomputable def d3v4 (P : Params) : List DictEntry := [E P "Heap" 364 (.ref 142)]
noncomputable def n3v4 (P : Params) : List DictEntry := d3v1 P ++ (d3v2 P ++ (d3v3 P ++ d3v4 P))
noncomputable def o3v4 (P : Params) : Obj := Obj.mk (.type "dict") none (.dict ([E P "__name__" 165 (.str (Str.ofString "perlcore.values") 194), E P "__doc__" 166 .none, E P "__package__" 167 .none, E P "__loader__" 168 (.builtin "__main__.__loader__#opaque"), E P "__spec__" 169 .none, E P "__annotations__" 170 (.ref 6), E P "__builtins__" 171 (.ref 4), E P "__file__" 173 (.str (Str.ofString "/claim/cut.py") 172), E P "__cached__" 174 .none] ++ n3v4 P : List DictEntry).toArray 14) #[]
noncomputable def d12v4 : List Value := [(.int 25 0), (.int 0 0), (.ref 89)]
noncomputable def n12v4 : List Value := d12v1 ++ (d12v2 ++ (d12v3 ++ d12v4))
noncomputable def o12v4 (P : Params) : Obj := Obj.mk .none none (.fields (n12v4).toArray) #[]
noncomputable def o84 (P : Params) : Obj := Obj.mk (.type "tuple") none (.seq [].toArray 0) #[]
noncomputable def o85 (P : Params) : Obj := Obj.mk (.type "builtin_function_or_method") none (.fields [(.builtin "type.__prepare__"), (.type "type")].toArray) #[]
noncomputable def o86 (P : Params) : Obj := Obj.mk (.type "dict") none (.dict ([E P "__module__" 295 (.str (Str.ofString "perlcore.values") 194), E P "__qualname__" 297 (.str (Str.ofString "Heap") 296), E P "__firstlineno__" 299 (.int 25 298), E P "__init__" 307 (.ref 97), E P "next_number" 314 (.ref 104), E P "new_scalar" 322 (.ref 111), E P "new_array" 329 (.ref 118), E P "new_hash" 336 (.ref 125), E P "new_code" 345 (.ref 132), E P "new_glob" 353 (.ref 139), E P "__static_attributes__" 357 (.ref 140)] : List DictEntry).toArray 11) #[]
noncomputable def o87 (P : Params) : Obj := Obj.mk (.type "tuple") none (.seq [].toArray 0) #[]
noncomputable def o88 (P : Params) : Obj := Obj.mk .none none (.fields [(.int 27 0), (.int 4 0), (.ref 96), (.int 32 0), (.int 4 0), (.ref 103), (.int 36 0), (.int 4 0), (.ref 110), (.int 39 0), (.int 4 0), (.ref 117), (.int 42 0), (.int 4 0), (.ref 124), (.int 45 0), (.int 4 0), (.ref 131), (.int 48 0), (.int 4 0), (.ref 138)].toArray) #[]
noncomputable def o89 (P : Params) : Obj := Obj.mk (.type "code") none (.fields [(.str (Str.ofString "Heap") 290), (.str (Str.ofString "Heap") 291), (.str (Str.ofString "/claim/cut.py") 292), (.int 25 0), (.int 0 0), (.int 0 0), (.int 0 0), (.int 0 0), (.ref 87), (.bool false), (.int 181 0), (.ref 88), .none, .none, .none, .none, (.int 293 0), (.int 25 0), (.str (Str.ofString "/claim/cut.py") 294)].toArray) #[]
noncomputable def o90 (P : Params) : Obj := Obj.mk (.type "frame") none .plain [(some (.ref 89)), (some (.ref 3)), (some (.ref 86)), none, (some (.str (Str.ofString "perlcore.values") 194)), none, (some (.ref 0))].toArray
noncomputable def o91 (P : Params) : Obj := Obj.mk (.type "tuple") none (.seq [].toArray 0) #[]
noncomputable def o92 (P : Params) : Obj := Obj.mk .none none (.fields [].toArray) #[]
noncomputable def o93 (P : Params) : Obj := Obj.mk (.type "tuple") none (.seq [(.str (Str.ofString "self") 303), (.str (Str.ofString "limits") 304)].toArray 0) #[]
noncomputable def o94 (P : Params) : Obj := Obj.mk (.type "tuple") none (.seq [].toArray 0) #[]
noncomputable def o95 (P : Params) : Obj := Obj.mk .none none (.func (FuncData.mk (Str.ofString "__init__") (Str.ofString "Heap.__init__") P4 (.stmts B4) Sc4 0 [] .none .none .none .none none .none .none 0)) #[]
noncomputable def o96 (P : Params) : Obj := Obj.mk (.type "code") none (.fields [(.str (Str.ofString "__init__") 300), (.str (Str.ofString "Heap.__init__") 301), (.str (Str.ofString "/claim/cut.py") 302), (.int 27 0), (.int 2 0), (.int 0 0), (.int 0 0), (.int 3 0), (.ref 91), (.bool true), (.int 181 0), (.ref 92), .none, (.ref 93), (.ref 94), (.ref 95), (.int 305 0), (.int 27 0), (.str (Str.ofString "/claim/cut.py") 306)].toArray) #[]
noncomputable def o97 (P : Params) : Obj := Obj.mk (.type "function") none (.func (FuncData.mk (Str.ofString "__init__") (Str.ofString "Heap.__init__") P4 (.stmts B4) Sc4 3 [] .none .none .none (.str (Str.ofString "perlcore.values") 194) none (.ref 96) .none 0)) #[]
noncomputable def o98 (P : Params) : Obj := Obj.mk (.type "tuple") none (.seq [].toArray 0) #[]
noncomputable def o99 (P : Params) : Obj := Obj.mk .none none (.fields [].toArray) #[]
noncomputable def o100 (P : Params) : Obj := Obj.mk (.type "tuple") none (.seq [(.str (Str.ofString "self") 311)].toArray 0) #[]
noncomputable def o101 (P : Params) : Obj := Obj.mk (.type "tuple") none (.seq [].toArray 0) #[]
noncomputable def o102 (P : Params) : Obj := Obj.mk .none none (.func (FuncData.mk (Str.ofString "next_number") (Str.ofString "Heap.next_number") P5 (.stmts B5) Sc5 0 [] .none .none .none .none none .none .none 0)) #[]
noncomputable def o103 (P : Params) : Obj := Obj.mk (.type "code") none (.fields [(.str (Str.ofString "next_number") 308), (.str (Str.ofString "Heap.next_number") 309), (.str (Str.ofString "/claim/cut.py") 310), (.int 32 0), (.int 1 0), (.int 0 0), (.int 0 0), (.int 3 0), (.ref 98), (.bool true), (.int 181 0), (.ref 99), .none, (.ref 100), (.ref 101), (.ref 102), (.int 312 0), (.int 32 0), (.str (Str.ofString "/claim/cut.py") 313)].toArray) #[]
noncomputable def o104 (P : Params) : Obj := Obj.mk (.type "function") none (.func (FuncData.mk (Str.ofString "next_number") (Str.ofString "Heap.next_number") P5 (.stmts B5) Sc5 3 [] .none .none .none (.str (Str.ofString "perlcore.values") 194) none (.ref 103) .none 0)) #[]
noncomputable def o105 (P : Params) : Obj := Obj.mk (.type "tuple") none (.seq [].toArray 0) #[]
noncomputable def o106 (P : Params) : Obj := Obj.mk .none none (.fields [].toArray) #[]
noncomputable def o107 (P : Params) : Obj := Obj.mk (.type "tuple") none (.seq [(.str (Str.ofString "self") 318), (.str (Str.ofString "value") 319)].toArray 0) #[]
noncomputable def o108 (P : Params) : Obj := Obj.mk (.type "tuple") none (.seq [].toArray 0) #[]
noncomputable def o109 (P : Params) : Obj := Obj.mk .none none (.func (FuncData.mk (Str.ofString "new_scalar") (Str.ofString "Heap.new_scalar") P6 (.stmts B6) Sc6 0 [] .none .none .none .none none .none .none 0)) #[]
noncomputable def o110 (P : Params) : Obj := Obj.mk (.type "code") none (.fields [(.str (Str.ofString "new_scalar") 315), (.str (Str.ofString "Heap.new_scalar") 316), (.str (Str.ofString "/claim/cut.py") 317), (.int 36 0), (.int 2 0), (.int 0 0), (.int 0 0), (.int 3 0), (.ref 105), (.bool true), (.int 181 0), (.ref 106), .none, (.ref 107), (.ref 108), (.ref 109), (.int 320 0), (.int 36 0), (.str (Str.ofString "/claim/cut.py") 321)].toArray) #[]
noncomputable def o111 (P : Params) : Obj := Obj.mk (.type "function") none (.func (FuncData.mk (Str.ofString "new_scalar") (Str.ofString "Heap.new_scalar") P6 (.stmts B6) Sc6 3 [] .none .none .none (.str (Str.ofString "perlcore.values") 194) none (.ref 110) .none 0)) #[]
noncomputable def o112 (P : Params) : Obj := Obj.mk (.type "tuple") none (.seq [].toArray 0) #[]
noncomputable def o113 (P : Params) : Obj := Obj.mk .none none (.fields [].toArray) #[]
noncomputable def o114 (P : Params) : Obj := Obj.mk (.type "tuple") none (.seq [(.str (Str.ofString "self") 326)].toArray 0) #[]
noncomputable def o115 (P : Params) : Obj := Obj.mk (.type "tuple") none (.seq [].toArray 0) #[]
noncomputable def o116 (P : Params) : Obj := Obj.mk .none none (.func (FuncData.mk (Str.ofString "new_array") (Str.ofString "Heap.new_array") P7 (.stmts B7) Sc7 0 [] .none .none .none .none none .none .none 0)) #[]
noncomputable def o117 (P : Params) : Obj := Obj.mk (.type "code") none (.fields [(.str (Str.ofString "new_array") 323), (.str (Str.ofString "Heap.new_array") 324), (.str (Str.ofString "/claim/cut.py") 325), (.int 39 0), (.int 1 0), (.int 0 0), (.int 0 0), (.int 3 0), (.ref 112), (.bool true), (.int 181 0), (.ref 113), .none, (.ref 114), (.ref 115), (.ref 116), (.int 327 0), (.int 39 0), (.str (Str.ofString "/claim/cut.py") 328)].toArray) #[]
noncomputable def o118 (P : Params) : Obj := Obj.mk (.type "function") none (.func (FuncData.mk (Str.ofString "new_array") (Str.ofString "Heap.new_array") P7 (.stmts B7) Sc7 3 [] .none .none .none (.str (Str.ofString "perlcore.values") 194) none (.ref 117) .none 0)) #[]
noncomputable def o119 (P : Params) : Obj := Obj.mk (.type "tuple") none (.seq [].toArray 0) #[]
noncomputable def o120 (P : Params) : Obj := Obj.mk .none none (.fields [].toArray) #[]
noncomputable def o121 (P : Params) : Obj := Obj.mk (.type "tuple") none (.seq [(.str (Str.ofString "self") 333)].toArray 0) #[]
noncomputable def o122 (P : Params) : Obj := Obj.mk (.type "tuple") none (.seq [].toArray 0) #[]
noncomputable def o123 (P : Params) : Obj := Obj.mk .none none (.func (FuncData.mk (Str.ofString "new_hash") (Str.ofString "Heap.new_hash") P8 (.stmts B8) Sc8 0 [] .none .none .none .none none .none .none 0)) #[]
noncomputable def o124 (P : Params) : Obj := Obj.mk (.type "code") none (.fields [(.str (Str.ofString "new_hash") 330), (.str (Str.ofString "Heap.new_hash") 331), (.str (Str.ofString "/claim/cut.py") 332), (.int 42 0), (.int 1 0), (.int 0 0), (.int 0 0), (.int 3 0), (.ref 119), (.bool true), (.int 181 0), (.ref 120), .none, (.ref 121), (.ref 122), (.ref 123), (.int 334 0), (.int 42 0), (.str (Str.ofString "/claim/cut.py") 335)].toArray) #[]
noncomputable def o125 (P : Params) : Obj := Obj.mk (.type "function") none (.func (FuncData.mk (Str.ofString "new_hash") (Str.ofString "Heap.new_hash") P8 (.stmts B8) Sc8 3 [] .none .none .none (.str (Str.ofString "perlcore.values") 194) none (.ref 124) .none 0)) #[]
noncomputable def o126 (P : Params) : Obj := Obj.mk (.type "tuple") none (.seq [].toArray 0) #[]
noncomputable def o127 (P : Params) : Obj := Obj.mk .none none (.fields [].toArray) #[]
noncomputable def o128 (P : Params) : Obj := Obj.mk (.type "tuple") none (.seq [(.str (Str.ofString "self") 340), (.str (Str.ofString "sub") 341), (.str (Str.ofString "captures") 342)].toArray 0) #[]
noncomputable def o129 (P : Params) : Obj := Obj.mk (.type "tuple") none (.seq [].toArray 0) #[]
noncomputable def o130 (P : Params) : Obj := Obj.mk .none none (.func (FuncData.mk (Str.ofString "new_code") (Str.ofString "Heap.new_code") P9 (.stmts B9) Sc9 0 [] .none .none .none .none none .none .none 0)) #[]
noncomputable def o131 (P : Params) : Obj := Obj.mk (.type "code") none (.fields [(.str (Str.ofString "new_code") 337), (.str (Str.ofString "Heap.new_code") 338), (.str (Str.ofString "/claim/cut.py") 339), (.int 45 0), (.int 3 0), (.int 0 0), (.int 0 0), (.int 3 0), (.ref 126), (.bool true), (.int 181 0), (.ref 127), .none, (.ref 128), (.ref 129), (.ref 130), (.int 343 0), (.int 45 0), (.str (Str.ofString "/claim/cut.py") 344)].toArray) #[]
noncomputable def o132 (P : Params) : Obj := Obj.mk (.type "function") none (.func (FuncData.mk (Str.ofString "new_code") (Str.ofString "Heap.new_code") P9 (.stmts B9) Sc9 3 [] .none .none .none (.str (Str.ofString "perlcore.values") 194) none (.ref 131) .none 0)) #[]
noncomputable def o133 (P : Params) : Obj := Obj.mk (.type "tuple") none (.seq [].toArray 0) #[]
noncomputable def o134 (P : Params) : Obj := Obj.mk .none none (.fields [].toArray) #[]
noncomputable def o135 (P : Params) : Obj := Obj.mk (.type "tuple") none (.seq [(.str (Str.ofString "self") 349), (.str (Str.ofString "name") 350)].toArray 0) #[]
noncomputable def o136 (P : Params) : Obj := Obj.mk (.type "tuple") none (.seq [].toArray 0) #[]
noncomputable def o137 (P : Params) : Obj := Obj.mk .none none (.func (FuncData.mk (Str.ofString "new_glob") (Str.ofString "Heap.new_glob") P10 (.stmts B10) Sc10 0 [] .none .none .none .none none .none .none 0)) #[]
noncomputable def o138 (P : Params) : Obj := Obj.mk (.type "code") none (.fields [(.str (Str.ofString "new_glob") 346), (.str (Str.ofString "Heap.new_glob") 347), (.str (Str.ofString "/claim/cut.py") 348), (.int 48 0), (.int 2 0), (.int 0 0), (.int 0 0), (.int 3 0), (.ref 133), (.bool true), (.int 181 0), (.ref 134), .none, (.ref 135), (.ref 136), (.ref 137), (.int 351 0), (.int 48 0), (.str (Str.ofString "/claim/cut.py") 352)].toArray) #[]
noncomputable def o139 (P : Params) : Obj := Obj.mk (.type "function") none (.func (FuncData.mk (Str.ofString "new_glob") (Str.ofString "Heap.new_glob") P10 (.stmts B10) Sc10 3 [] .none .none .none (.str (Str.ofString "perlcore.values") 194) none (.ref 138) .none 0)) #[]
noncomputable def o140 (P : Params) : Obj := Obj.mk (.type "tuple") none (.seq [(.str (Str.ofString "last") 354), (.str (Str.ofString "limits") 355), (.str (Str.ofString "zero") 356)].toArray 0) #[]
noncomputable def o141 (P : Params) : Obj := Obj.mk (.type "dict") none (.dict ([E P "__module__" 295 (.str (Str.ofString "perlcore.values") 194), E P "__firstlineno__" 299 (.int 25 298), E P "__init__" 307 (.ref 97), E P "next_number" 314 (.ref 104), E P "new_scalar" 322 (.ref 111), E P "new_array" 329 (.ref 118), E P "new_hash" 336 (.ref 125), E P "new_code" 345 (.ref 132), E P "new_glob" 353 (.ref 139), E P "__static_attributes__" 357 (.ref 140), E P "__dict__" 359 (.ref 143), E P "__weakref__" 361 (.ref 144), E P "__doc__" 362 .none] : List DictEntry).toArray 4) #[]
noncomputable def o142 (P : Params) : Obj := Obj.mk (.type "type") none (.cls (ClassData.mk (Str.ofString "Heap") [(.type "object")] [(.ref 142), (.type "object")] 141 (Str.ofString "Heap") true [] [] false none false)) [none, none, (some (.str (Str.ofString "Heap") 288)), (some (.str (Str.ofString "Heap") 296)), (some (.builtin "object.__new__")), (some (.bool true))].toArray
noncomputable def o143 (P : Params) : Obj := Obj.mk (.type "getset_descriptor") none (.fields [(.str (Str.ofString "__dict__") 358), (.ref 142), (.builtin "function.__dict__"), (.builtin "function.__dict__#set")].toArray) #[]
noncomputable def o144 (P : Params) : Obj := Obj.mk (.type "getset_descriptor") none (.fields [(.str (Str.ofString "__weakref__") 360), (.ref 142), (.builtin "ExceptionGroup.__weakref__"), .none].toArray) #[]
noncomputable def o145 (P : Params) : Obj := Obj.mk (.type "super") none (.fields [(.ref 142), (.ref 142), (.ref 142)].toArray) #[]
noncomputable def o146 (P : Params) : Obj := Obj.mk (.type "builtin_function_or_method") none (.fields [(.builtin "object.__init_subclass__"), (.ref 142)].toArray) #[]
noncomputable def T4p0 (P : Params) : BT := (((((((((((((((((((((((((((((((((((((((((T3 P).ins 3 (o3v4 P)).ins 12 (o12v4 P)).ins 84 (o84 P)).ins 85 (o85 P)).ins 86 (o86 P)).ins 87 (o87 P)).ins 88 (o88 P)).ins 89 (o89 P)).ins 90 (o90 P)).ins 91 (o91 P)).ins 92 (o92 P)).ins 93 (o93 P)).ins 94 (o94 P)).ins 95 (o95 P)).ins 96 (o96 P)).ins 97 (o97 P)).ins 98 (o98 P)).ins 99 (o99 P)).ins 100 (o100 P)).ins 101 (o101 P)).ins 102 (o102 P)).ins 103 (o103 P)).ins 104 (o104 P)).ins 105 (o105 P)).ins 106 (o106 P)).ins 107 (o107 P)).ins 108 (o108 P)).ins 109 (o109 P)).ins 110 (o110 P)).ins 111 (o111 P)).ins 112 (o112 P)).ins 113 (o113 P)).ins 114 (o114 P)).ins 115 (o115 P)).ins 116 (o116 P)).ins 117 (o117 P)).ins 118 (o118 P)).ins 119 (o119 P)).ins 120 (o120 P)).ins 121 (o121 P))
noncomputable def T4 (P : Params) : BT := ((((((((((((((((((((((((((T4p0 P).ins 122 (o122 P)).ins 123 (o123 P)).ins 124 (o124 P)).ins 125 (o125 P)).ins 126 (o126 P)).ins 127 (o127 P)).ins 128 (o128 P)).ins 129 (o129 P)).ins 130 (o130 P)).ins 131 (o131 P)).ins 132 (o132 P)).ins 133 (o133 P)).ins 134 (o134 P)).ins 135 (o135 P)).ins 136 (o136 P)).ins 137 (o137 P)).ins 138 (o138 P)).ins 139 (o139 P)).ins 140 (o140 P)).ins 141 (o141 P)).ins 142 (o142 P)).ins 143 (o143 P)).ins 144 (o144 P)).ins 145 (o145 P)).ins 146 (o146 P))
@[reducible] noncomputable def sts3 : List Stmt := (bodyE.drop 5).take 1
theorem q3 : ∀ w : World, (fun os => sgT w 415 ⟨T3 w.params, 84, {}, ⟨[]⟩, {}, 288, os⟩ (thr sts3 ⟨20, 0, 24, 30⟩)) = fun os => some (Flow.next, ⟨T4 w.params, 147, {}, ⟨[]⟩, {}, 365, os⟩, cE, ⟨25, 0, 49, 16⟩) := fun w => by kernel_rfl
noncomputable def d3v5 (P : Params) : List DictEntry := [E P "value_of" 373 (.ref 153), E P "drop_member" 384 (.ref 160), E P "key_place" 396 (.ref 167), E P "delete_key" 405 (.ref 174), E P "LAST_PATTERN" 410 (.ref 175), E P "last_pattern" 417 (.ref 182), E P "save_match" 424 (.ref 189), E P "set_match" 433 (.ref 196), E P "let_go_of" 441 (.ref 203), E P "undo_scalar" 449 (.ref 210), E P "undo_array" 457 (.ref 217), E P "undo_hash" 465 (.ref 224)]
noncomputable def n3v5 (P : Params) : List DictEntry := d3v1 P ++ (d3v2 P ++ (d3v3 P ++ (d3v4 P ++ d3v5 P)))
noncomputable def o3v5 (P : Params) : Obj := Obj.mk (.type "dict") none (.dict ([E P "__name__" 165 (.str (Str.ofString "perlcore.dynamic") 406), E P "__doc__" 166 .none, E P "__package__" 167 .none, E P "__loader__" 168 (.builtin "__main__.__loader__#opaque"), E P "__spec__" 169 .none, E P "__annotations__" 170 (.ref 6), E P "__builtins__" 171 (.ref 4), E P "__file__" 173 (.str (Str.ofString "/claim/cut.py") 172), E P "__cached__" 174 .none] ++ n3v5 P : List DictEntry).toArray 26) #[]
noncomputable def d12v5 : List Value := [(.int 51 0), (.int 0 0), (.ref 152), (.int 58 0), (.int 0 0), (.ref 159), (.int 65 0), (.int 0 0), (.ref 166), (.int 72 0), (.int 0 0), (.ref 173), (.int 80 0), (.int 0 0), (.ref 181), (.int 82 0), (.int 0 0), (.ref 188), (.int 84 0), (.int 0 0), (.ref 195), (.int 88 0), (.int 0 0), (.ref 202), (.int 91 0), (.int 0 0), (.ref 209), (.int 94 0), (.int 0 0), (.ref 216), (.int 97 0), (.int 0 0), (.ref 223)]
noncomputable def n12v5 : List Value := d12v1 ++ (d12v2 ++ (d12v3 ++ (d12v4 ++ d12v5)))
noncomputable def o12v5 (P : Params) : Obj := Obj.mk .none none (.fields (n12v5).toArray) #[]
noncomputable def o147 (P : Params) : Obj := Obj.mk (.type "tuple") none (.seq [].toArray 0) #[]
noncomputable def o148 (P : Params) : Obj := Obj.mk .none none (.fields [].toArray) #[]
noncomputable def o149 (P : Params) : Obj := Obj.mk (.type "tuple") none (.seq [(.str (Str.ofString "x") 370)].toArray 0) #[]
noncomputable def o150 (P : Params) : Obj := Obj.mk (.type "tuple") none (.seq [].toArray 0) #[]
noncomputable def o151 (P : Params) : Obj := Obj.mk .none none (.func (FuncData.mk (Str.ofString "value_of") (Str.ofString "value_of") P11 (.stmts B11) Sc11 0 [] .none .none .none .none none .none .none 0)) #[]
noncomputable def o152 (P : Params) : Obj := Obj.mk (.type "code") none (.fields [(.str (Str.ofString "value_of") 367), (.str (Str.ofString "value_of") 368), (.str (Str.ofString "/claim/cut.py") 369), (.int 51 0), (.int 1 0), (.int 0 0), (.int 0 0), (.int 3 0), (.ref 147), (.bool true), (.int 181 0), (.ref 148), .none, (.ref 149), (.ref 150), (.ref 151), (.int 371 0), (.int 51 0), (.str (Str.ofString "/claim/cut.py") 372)].toArray) #[]
noncomputable def o153 (P : Params) : Obj := Obj.mk (.type "function") none (.func (FuncData.mk (Str.ofString "value_of") (Str.ofString "value_of") P11 (.stmts B11) Sc11 3 [] .none .none .none (.str (Str.ofString "perlcore.convert") 365) none (.ref 152) .none 0)) #[]
noncomputable def o154 (P : Params) : Obj := Obj.mk (.type "tuple") none (.seq [].toArray 0) #[]
noncomputable def o155 (P : Params) : Obj := Obj.mk .none none (.fields [].toArray) #[]
noncomputable def o156 (P : Params) : Obj := Obj.mk (.type "tuple") none (.seq [(.str (Str.ofString "counter") 379), (.str (Str.ofString "member") 380), (.str (Str.ofString "value") 381)].toArray 0) #[]
noncomputable def o157 (P : Params) : Obj := Obj.mk (.type "tuple") none (.seq [].toArray 0) #[]
noncomputable def o158 (P : Params) : Obj := Obj.mk .none none (.func (FuncData.mk (Str.ofString "drop_member") (Str.ofString "drop_member") P12 (.stmts B12) Sc12 0 [] .none .none .none .none none .none .none 0)) #[]
noncomputable def o159 (P : Params) : Obj := Obj.mk (.type "code") none (.fields [(.str (Str.ofString "drop_member") 376), (.str (Str.ofString "drop_member") 377), (.str (Str.ofString "/claim/cut.py") 378), (.int 58 0), (.int 2 0), (.int 0 0), (.int 0 0), (.int 3 0), (.ref 154), (.bool true), (.int 181 0), (.ref 155), .none, (.ref 156), (.ref 157), (.ref 158), (.int 382 0), (.int 58 0), (.str (Str.ofString "/claim/cut.py") 383)].toArray) #[]
noncomputable def o160 (P : Params) : Obj := Obj.mk (.type "function") none (.func (FuncData.mk (Str.ofString "drop_member") (Str.ofString "drop_member") P12 (.stmts B12) Sc12 3 [] .none .none .none (.str (Str.ofString "perlcore.listops") 374) none (.ref 159) .none 0)) #[]
noncomputable def o161 (P : Params) : Obj := Obj.mk (.type "tuple") none (.seq [].toArray 0) #[]
noncomputable def o162 (P : Params) : Obj := Obj.mk .none none (.fields [].toArray) #[]
noncomputable def o163 (P : Params) : Obj := Obj.mk (.type "tuple") none (.seq [(.str (Str.ofString "table_thing") 390), (.str (Str.ofString "key") 391), (.str (Str.ofString "place") 392), (.str (Str.ofString "other") 393)].toArray 0) #[]
noncomputable def o164 (P : Params) : Obj := Obj.mk (.type "tuple") none (.seq [].toArray 0) #[]
noncomputable def o165 (P : Params) : Obj := Obj.mk .none none (.func (FuncData.mk (Str.ofString "key_place") (Str.ofString "key_place") P13 (.stmts B13) Sc13 0 [] .none .none .none .none none .none .none 0)) #[]
noncomputable def o166 (P : Params) : Obj := Obj.mk (.type "code") none (.fields [(.str (Str.ofString "key_place") 387), (.str (Str.ofString "key_place") 388), (.str (Str.ofString "/claim/cut.py") 389), (.int 65 0), (.int 2 0), (.int 0 0), (.int 0 0), (.int 3 0), (.ref 161), (.bool true), (.int 181 0), (.ref 162), .none, (.ref 163), (.ref 164), (.ref 165), (.int 394 0), (.int 65 0), (.str (Str.ofString "/claim/cut.py") 395)].toArray) #[]
noncomputable def o167 (P : Params) : Obj := Obj.mk (.type "function") none (.func (FuncData.mk (Str.ofString "key_place") (Str.ofString "key_place") P13 (.stmts B13) Sc13 3 [] .none .none .none (.str (Str.ofString "perlcore.hashops") 385) none (.ref 166) .none 0)) #[]
noncomputable def o168 (P : Params) : Obj := Obj.mk (.type "tuple") none (.seq [].toArray 0) #[]
noncomputable def o169 (P : Params) : Obj := Obj.mk .none none (.fields [].toArray) #[]
noncomputable def o170 (P : Params) : Obj := Obj.mk (.type "tuple") none (.seq [(.str (Str.ofString "counter") 400), (.str (Str.ofString "table_thing") 401), (.str (Str.ofString "key") 402)].toArray 0) #[]
noncomputable def o171 (P : Params) : Obj := Obj.mk (.type "tuple") none (.seq [].toArray 0) #[]
noncomputable def o172 (P : Params) : Obj := Obj.mk .none none (.func (FuncData.mk (Str.ofString "delete_key") (Str.ofString "delete_key") P14 (.stmts B14) Sc14 0 [] .none .none .none .none none .none .none 0)) #[]
noncomputable def o173 (P : Params) : Obj := Obj.mk (.type "code") none (.fields [(.str (Str.ofString "delete_key") 397), (.str (Str.ofString "delete_key") 398), (.str (Str.ofString "/claim/cut.py") 399), (.int 72 0), (.int 3 0), (.int 0 0), (.int 0 0), (.int 3 0), (.ref 168), (.bool true), (.int 181 0), (.ref 169), .none, (.ref 170), (.ref 171), (.ref 172), (.int 403 0), (.int 72 0), (.str (Str.ofString "/claim/cut.py") 404)].toArray) #[]
noncomputable def o174 (P : Params) : Obj := Obj.mk (.type "function") none (.func (FuncData.mk (Str.ofString "delete_key") (Str.ofString "delete_key") P14 (.stmts B14) Sc14 3 [] .none .none .none (.str (Str.ofString "perlcore.hashops") 385) none (.ref 173) .none 0)) #[]
noncomputable def o175 (P : Params) : Obj := Obj.mk (.type "tuple") none (.seq [(.str (Str.ofString "") 408), (.str (Str.ofString "last") 409)].toArray 0) #[]
noncomputable def o176 (P : Params) : Obj := Obj.mk (.type "tuple") none (.seq [].toArray 0) #[]
noncomputable def o177 (P : Params) : Obj := Obj.mk .none none (.fields [].toArray) #[]
noncomputable def o178 (P : Params) : Obj := Obj.mk (.type "tuple") none (.seq [(.str (Str.ofString "run") 414)].toArray 0) #[]
noncomputable def o179 (P : Params) : Obj := Obj.mk (.type "tuple") none (.seq [].toArray 0) #[]
noncomputable def o180 (P : Params) : Obj := Obj.mk .none none (.func (FuncData.mk (Str.ofString "last_pattern") (Str.ofString "last_pattern") P15 (.stmts B15) Sc15 0 [] .none .none .none .none none .none .none 0)) #[]
noncomputable def o181 (P : Params) : Obj := Obj.mk (.type "code") none (.fields [(.str (Str.ofString "last_pattern") 411), (.str (Str.ofString "last_pattern") 412), (.str (Str.ofString "/claim/cut.py") 413), (.int 80 0), (.int 1 0), (.int 0 0), (.int 0 0), (.int 3 0), (.ref 176), (.bool true), (.int 181 0), (.ref 177), .none, (.ref 178), (.ref 179), (.ref 180), (.int 415 0), (.int 80 0), (.str (Str.ofString "/claim/cut.py") 416)].toArray) #[]
noncomputable def o182 (P : Params) : Obj := Obj.mk (.type "function") none (.func (FuncData.mk (Str.ofString "last_pattern") (Str.ofString "last_pattern") P15 (.stmts B15) Sc15 3 [] .none .none .none (.str (Str.ofString "perlcore.dynamic") 406) none (.ref 181) .none 0)) #[]
noncomputable def o183 (P : Params) : Obj := Obj.mk (.type "tuple") none (.seq [].toArray 0) #[]
noncomputable def o184 (P : Params) : Obj := Obj.mk .none none (.fields [].toArray) #[]
noncomputable def o185 (P : Params) : Obj := Obj.mk (.type "tuple") none (.seq [(.str (Str.ofString "run") 421)].toArray 0) #[]
noncomputable def o186 (P : Params) : Obj := Obj.mk (.type "tuple") none (.seq [].toArray 0) #[]
noncomputable def o187 (P : Params) : Obj := Obj.mk .none none (.func (FuncData.mk (Str.ofString "save_match") (Str.ofString "save_match") P16 (.stmts B16) Sc16 0 [] .none .none .none .none none .none .none 0)) #[]
noncomputable def o188 (P : Params) : Obj := Obj.mk (.type "code") none (.fields [(.str (Str.ofString "save_match") 418), (.str (Str.ofString "save_match") 419), (.str (Str.ofString "/claim/cut.py") 420), (.int 82 0), (.int 1 0), (.int 0 0), (.int 0 0), (.int 3 0), (.ref 183), (.bool true), (.int 181 0), (.ref 184), .none, (.ref 185), (.ref 186), (.ref 187), (.int 422 0), (.int 82 0), (.str (Str.ofString "/claim/cut.py") 423)].toArray) #[]
noncomputable def o189 (P : Params) : Obj := Obj.mk (.type "function") none (.func (FuncData.mk (Str.ofString "save_match") (Str.ofString "save_match") P16 (.stmts B16) Sc16 3 [] .none .none .none (.str (Str.ofString "perlcore.dynamic") 406) none (.ref 188) .none 0)) #[]
noncomputable def o190 (P : Params) : Obj := Obj.mk (.type "tuple") none (.seq [].toArray 0) #[]
noncomputable def o191 (P : Params) : Obj := Obj.mk .none none (.fields [].toArray) #[]
noncomputable def o192 (P : Params) : Obj := Obj.mk (.type "tuple") none (.seq [(.str (Str.ofString "run") 428), (.str (Str.ofString "told") 429), (.str (Str.ofString "program") 430)].toArray 0) #[]
noncomputable def o193 (P : Params) : Obj := Obj.mk (.type "tuple") none (.seq [].toArray 0) #[]
noncomputable def o194 (P : Params) : Obj := Obj.mk .none none (.func (FuncData.mk (Str.ofString "set_match") (Str.ofString "set_match") P17 (.stmts B17) Sc17 0 [] .none .none .none .none none .none .none 0)) #[]
noncomputable def o195 (P : Params) : Obj := Obj.mk (.type "code") none (.fields [(.str (Str.ofString "set_match") 425), (.str (Str.ofString "set_match") 426), (.str (Str.ofString "/claim/cut.py") 427), (.int 84 0), (.int 3 0), (.int 0 0), (.int 0 0), (.int 3 0), (.ref 190), (.bool true), (.int 181 0), (.ref 191), .none, (.ref 192), (.ref 193), (.ref 194), (.int 431 0), (.int 84 0), (.str (Str.ofString "/claim/cut.py") 432)].toArray) #[]
noncomputable def o196 (P : Params) : Obj := Obj.mk (.type "function") none (.func (FuncData.mk (Str.ofString "set_match") (Str.ofString "set_match") P17 (.stmts B17) Sc17 3 [] .none .none .none (.str (Str.ofString "perlcore.dynamic") 406) none (.ref 195) .none 0)) #[]
noncomputable def o197 (P : Params) : Obj := Obj.mk (.type "tuple") none (.seq [].toArray 0) #[]
noncomputable def o198 (P : Params) : Obj := Obj.mk .none none (.fields [].toArray) #[]
noncomputable def o199 (P : Params) : Obj := Obj.mk (.type "tuple") none (.seq [(.str (Str.ofString "run") 437), (.str (Str.ofString "thing") 438)].toArray 0) #[]
noncomputable def o200 (P : Params) : Obj := Obj.mk (.type "tuple") none (.seq [].toArray 0) #[]
noncomputable def o201 (P : Params) : Obj := Obj.mk .none none (.func (FuncData.mk (Str.ofString "let_go_of") (Str.ofString "let_go_of") P18 (.stmts B18) Sc18 0 [] .none .none .none .none none .none .none 0)) #[]
noncomputable def o202 (P : Params) : Obj := Obj.mk (.type "code") none (.fields [(.str (Str.ofString "let_go_of") 434), (.str (Str.ofString "let_go_of") 435), (.str (Str.ofString "/claim/cut.py") 436), (.int 88 0), (.int 2 0), (.int 0 0), (.int 0 0), (.int 3 0), (.ref 197), (.bool true), (.int 181 0), (.ref 198), .none, (.ref 199), (.ref 200), (.ref 201), (.int 439 0), (.int 88 0), (.str (Str.ofString "/claim/cut.py") 440)].toArray) #[]
noncomputable def o203 (P : Params) : Obj := Obj.mk (.type "function") none (.func (FuncData.mk (Str.ofString "let_go_of") (Str.ofString "let_go_of") P18 (.stmts B18) Sc18 3 [] .none .none .none (.str (Str.ofString "perlcore.dynamic") 406) none (.ref 202) .none 0)) #[]
noncomputable def o204 (P : Params) : Obj := Obj.mk (.type "tuple") none (.seq [].toArray 0) #[]
noncomputable def o205 (P : Params) : Obj := Obj.mk .none none (.fields [].toArray) #[]
noncomputable def o206 (P : Params) : Obj := Obj.mk (.type "tuple") none (.seq [(.str (Str.ofString "run") 445), (.str (Str.ofString "save") 446)].toArray 0) #[]
noncomputable def o207 (P : Params) : Obj := Obj.mk (.type "tuple") none (.seq [].toArray 0) #[]
noncomputable def o208 (P : Params) : Obj := Obj.mk .none none (.func (FuncData.mk (Str.ofString "undo_scalar") (Str.ofString "undo_scalar") P19 (.stmts B19) Sc19 0 [] .none .none .none .none none .none .none 0)) #[]
noncomputable def o209 (P : Params) : Obj := Obj.mk (.type "code") none (.fields [(.str (Str.ofString "undo_scalar") 442), (.str (Str.ofString "undo_scalar") 443), (.str (Str.ofString "/claim/cut.py") 444), (.int 91 0), (.int 2 0), (.int 0 0), (.int 0 0), (.int 3 0), (.ref 204), (.bool true), (.int 181 0), (.ref 205), .none, (.ref 206), (.ref 207), (.ref 208), (.int 447 0), (.int 91 0), (.str (Str.ofString "/claim/cut.py") 448)].toArray) #[]
noncomputable def o210 (P : Params) : Obj := Obj.mk (.type "function") none (.func (FuncData.mk (Str.ofString "undo_scalar") (Str.ofString "undo_scalar") P19 (.stmts B19) Sc19 3 [] .none .none .none (.str (Str.ofString "perlcore.dynamic") 406) none (.ref 209) .none 0)) #[]
noncomputable def o211 (P : Params) : Obj := Obj.mk (.type "tuple") none (.seq [].toArray 0) #[]
noncomputable def o212 (P : Params) : Obj := Obj.mk .none none (.fields [].toArray) #[]
noncomputable def o213 (P : Params) : Obj := Obj.mk (.type "tuple") none (.seq [(.str (Str.ofString "run") 453), (.str (Str.ofString "save") 454)].toArray 0) #[]
noncomputable def o214 (P : Params) : Obj := Obj.mk (.type "tuple") none (.seq [].toArray 0) #[]
noncomputable def o215 (P : Params) : Obj := Obj.mk .none none (.func (FuncData.mk (Str.ofString "undo_array") (Str.ofString "undo_array") P20 (.stmts B20) Sc20 0 [] .none .none .none .none none .none .none 0)) #[]
noncomputable def o216 (P : Params) : Obj := Obj.mk (.type "code") none (.fields [(.str (Str.ofString "undo_array") 450), (.str (Str.ofString "undo_array") 451), (.str (Str.ofString "/claim/cut.py") 452), (.int 94 0), (.int 2 0), (.int 0 0), (.int 0 0), (.int 3 0), (.ref 211), (.bool true), (.int 181 0), (.ref 212), .none, (.ref 213), (.ref 214), (.ref 215), (.int 455 0), (.int 94 0), (.str (Str.ofString "/claim/cut.py") 456)].toArray) #[]
noncomputable def o217 (P : Params) : Obj := Obj.mk (.type "function") none (.func (FuncData.mk (Str.ofString "undo_array") (Str.ofString "undo_array") P20 (.stmts B20) Sc20 3 [] .none .none .none (.str (Str.ofString "perlcore.dynamic") 406) none (.ref 216) .none 0)) #[]
noncomputable def o218 (P : Params) : Obj := Obj.mk (.type "tuple") none (.seq [].toArray 0) #[]
noncomputable def o219 (P : Params) : Obj := Obj.mk .none none (.fields [].toArray) #[]
noncomputable def o220 (P : Params) : Obj := Obj.mk (.type "tuple") none (.seq [(.str (Str.ofString "run") 461), (.str (Str.ofString "save") 462)].toArray 0) #[]
noncomputable def o221 (P : Params) : Obj := Obj.mk (.type "tuple") none (.seq [].toArray 0) #[]
noncomputable def o222 (P : Params) : Obj := Obj.mk .none none (.func (FuncData.mk (Str.ofString "undo_hash") (Str.ofString "undo_hash") P21 (.stmts B21) Sc21 0 [] .none .none .none .none none .none .none 0)) #[]
noncomputable def o223 (P : Params) : Obj := Obj.mk (.type "code") none (.fields [(.str (Str.ofString "undo_hash") 458), (.str (Str.ofString "undo_hash") 459), (.str (Str.ofString "/claim/cut.py") 460), (.int 97 0), (.int 2 0), (.int 0 0), (.int 0 0), (.int 3 0), (.ref 218), (.bool true), (.int 181 0), (.ref 219), .none, (.ref 220), (.ref 221), (.ref 222), (.int 463 0), (.int 97 0), (.str (Str.ofString "/claim/cut.py") 464)].toArray) #[]
noncomputable def o224 (P : Params) : Obj := Obj.mk (.type "function") none (.func (FuncData.mk (Str.ofString "undo_hash") (Str.ofString "undo_hash") P21 (.stmts B21) Sc21 3 [] .none .none .none (.str (Str.ofString "perlcore.dynamic") 406) none (.ref 223) .none 0)) #[]
noncomputable def T5p0 (P : Params) : BT := (((((((((((((((((((((((((((((((((((((((((T4 P).ins 3 (o3v5 P)).ins 12 (o12v5 P)).ins 147 (o147 P)).ins 148 (o148 P)).ins 149 (o149 P)).ins 150 (o150 P)).ins 151 (o151 P)).ins 152 (o152 P)).ins 153 (o153 P)).ins 154 (o154 P)).ins 155 (o155 P)).ins 156 (o156 P)).ins 157 (o157 P)).ins 158 (o158 P)).ins 159 (o159 P)).ins 160 (o160 P)).ins 161 (o161 P)).ins 162 (o162 P)).ins 163 (o163 P)).ins 164 (o164 P)).ins 165 (o165 P)).ins 166 (o166 P)).ins 167 (o167 P)).ins 168 (o168 P)).ins 169 (o169 P)).ins 170 (o170 P)).ins 171 (o171 P)).ins 172 (o172 P)).ins 173 (o173 P)).ins 174 (o174 P)).ins 175 (o175 P)).ins 176 (o176 P)).ins 177 (o177 P)).ins 178 (o178 P)).ins 179 (o179 P)).ins 180 (o180 P)).ins 181 (o181 P)).ins 182 (o182 P)).ins 183 (o183 P)).ins 184 (o184 P))
noncomputable def T5 (P : Params) : BT := (((((((((((((((((((((((((((((((((((((((((T5p0 P).ins 185 (o185 P)).ins 186 (o186 P)).ins 187 (o187 P)).ins 188 (o188 P)).ins 189 (o189 P)).ins 190 (o190 P)).ins 191 (o191 P)).ins 192 (o192 P)).ins 193 (o193 P)).ins 194 (o194 P)).ins 195 (o195 P)).ins 196 (o196 P)).ins 197 (o197 P)).ins 198 (o198 P)).ins 199 (o199 P)).ins 200 (o200 P)).ins 201 (o201 P)).ins 202 (o202 P)).ins 203 (o203 P)).ins 204 (o204 P)).ins 205 (o205 P)).ins 206 (o206 P)).ins 207 (o207 P)).ins 208 (o208 P)).ins 209 (o209 P)).ins 210 (o210 P)).ins 211 (o211 P)).ins 212 (o212 P)).ins 213 (o213 P)).ins 214 (o214 P)).ins 215 (o215 P)).ins 216 (o216 P)).ins 217 (o217 P)).ins 218 (o218 P)).ins 219 (o219 P)).ins 220 (o220 P)).ins 221 (o221 P)).ins 222 (o222 P)).ins 223 (o223 P)).ins 224 (o224 P))
@[reducible] noncomputable def sts4 : List Stmt := (bodyE.drop 6).take 16
theorem q4 : ∀ w : World, (fun os => sgT w 381 ⟨T4 w.params, 147, {}, ⟨[]⟩, {}, 365, os⟩ (thr sts4 ⟨25, 0, 49, 16⟩)) = fun os => some (Flow.next, ⟨T5 w.params, 225, {}, ⟨[]⟩, {}, 466, os⟩, cE, ⟨97, 0, 99, 26⟩) := fun w => by kernel_rfl
noncomputable def d3v6 (P : Params) : List DictEntry := [E P "undo_code" 473 (.ref 231), E P "undo_elem" 486 (.ref 238), E P "undo_helem" 498 (.ref 245), E P "undo_tied" 510 (.ref 252), E P "undo_pad" 518 (.ref 259), E P "undo_slot" 526 (.ref 266), E P "undo_match" 534 (.ref 273), E P "undo_package" 542 (.ref 280)]
noncomputable def n3v6 (P : Params) : List DictEntry := d3v1 P ++ (d3v2 P ++ (d3v3 P ++ (d3v4 P ++ (d3v5 P ++ d3v6 P))))
noncomputable def o3v6 (P : Params) : Obj := Obj.mk (.type "dict") none (.dict ([E P "__name__" 165 (.str (Str.ofString "perlcore.dynamic") 406), E P "__doc__" 166 .none, E P "__package__" 167 .none, E P "__loader__" 168 (.builtin "__main__.__loader__#opaque"), E P "__spec__" 169 .none, E P "__annotations__" 170 (.ref 6), E P "__builtins__" 171 (.ref 4), E P "__file__" 173 (.str (Str.ofString "/claim/cut.py") 172), E P "__cached__" 174 .none] ++ n3v6 P : List DictEntry).toArray 34) #[]
noncomputable def d12v6 : List Value := [(.int 100 0), (.int 0 0), (.ref 230), (.int 104 0), (.int 0 0), (.ref 237), (.int 118 0), (.int 0 0), (.ref 244), (.int 126 0), (.int 0 0), (.ref 251), (.int 139 0), (.int 0 0), (.ref 258), (.int 142 0), (.int 0 0), (.ref 265), (.int 145 0), (.int 0 0), (.ref 272), (.int 148 0), (.int 0 0), (.ref 279)]
noncomputable def n12v6 : List Value := d12v1 ++ (d12v2 ++ (d12v3 ++ (d12v4 ++ (d12v5 ++ d12v6))))
noncomputable def o12v6 (P : Params) : Obj := Obj.mk .none none (.fields (n12v6).toArray) #[]
noncomputable def o225 (P : Params) : Obj := Obj.mk (.type "tuple") none (.seq [].toArray 0) #[]
noncomputable def o226 (P : Params) : Obj := Obj.mk .none none (.fields [].toArray) #[]
noncomputable def o227 (P : Params) : Obj := Obj.mk (.type "tuple") none (.seq [(.str (Str.ofString "run") 469), (.str (Str.ofString "save") 470)].toArray 0) #[]
noncomputable def o228 (P : Params) : Obj := Obj.mk (.type "tuple") none (.seq [].toArray 0) #[]
noncomputable def o229 (P : Params) : Obj := Obj.mk .none none (.func (FuncData.mk (Str.ofString "undo_code") (Str.ofString "undo_code") P22 (.stmts B22) Sc22 0 [] .none .none .none .none none .none .none 0)) #[]
noncomputable def o230 (P : Params) : Obj := Obj.mk (.type "code") none (.fields [(.str (Str.ofString "undo_code") 466), (.str (Str.ofString "undo_code") 467), (.str (Str.ofString "/claim/cut.py") 468), (.int 100 0), (.int 2 0), (.int 0 0), (.int 0 0), (.int 3 0), (.ref 225), (.bool true), (.int 181 0), (.ref 226), .none, (.ref 227), (.ref 228), (.ref 229), (.int 471 0), (.int 100 0), (.str (Str.ofString "/claim/cut.py") 472)].toArray) #[]
noncomputable def o231 (P : Params) : Obj := Obj.mk (.type "function") none (.func (FuncData.mk (Str.ofString "undo_code") (Str.ofString "undo_code") P22 (.stmts B22) Sc22 3 [] .none .none .none (.str (Str.ofString "perlcore.dynamic") 406) none (.ref 230) .none 0)) #[]
noncomputable def o232 (P : Params) : Obj := Obj.mk (.type "tuple") none (.seq [].toArray 0) #[]
noncomputable def o233 (P : Params) : Obj := Obj.mk .none none (.fields [].toArray) #[]
noncomputable def o234 (P : Params) : Obj := Obj.mk (.type "tuple") none (.seq [(.str (Str.ofString "run") 477), (.str (Str.ofString "save") 478), (.str (Str.ofString "word") 479), (.str (Str.ofString "array") 480), (.str (Str.ofString "index") 481), (.str (Str.ofString "old") 482), (.str (Str.ofString "items") 483)].toArray 0) #[]
noncomputable def o235 (P : Params) : Obj := Obj.mk (.type "tuple") none (.seq [].toArray 0) #[]
noncomputable def o236 (P : Params) : Obj := Obj.mk .none none (.func (FuncData.mk (Str.ofString "undo_elem") (Str.ofString "undo_elem") P23 (.stmts B23) Sc23 0 [] .none .none .none .none none .none .none 0)) #[]
noncomputable def o237 (P : Params) : Obj := Obj.mk (.type "code") none (.fields [(.str (Str.ofString "undo_elem") 474), (.str (Str.ofString "undo_elem") 475), (.str (Str.ofString "/claim/cut.py") 476), (.int 104 0), (.int 2 0), (.int 0 0), (.int 0 0), (.int 3 0), (.ref 232), (.bool true), (.int 181 0), (.ref 233), .none, (.ref 234), (.ref 235), (.ref 236), (.int 484 0), (.int 104 0), (.str (Str.ofString "/claim/cut.py") 485)].toArray) #[]
noncomputable def o238 (P : Params) : Obj := Obj.mk (.type "function") none (.func (FuncData.mk (Str.ofString "undo_elem") (Str.ofString "undo_elem") P23 (.stmts B23) Sc23 3 [] .none .none .none (.str (Str.ofString "perlcore.dynamic") 406) none (.ref 237) .none 0)) #[]
noncomputable def o239 (P : Params) : Obj := Obj.mk (.type "tuple") none (.seq [].toArray 0) #[]
noncomputable def o240 (P : Params) : Obj := Obj.mk .none none (.fields [].toArray) #[]
noncomputable def o241 (P : Params) : Obj := Obj.mk (.type "tuple") none (.seq [(.str (Str.ofString "run") 490), (.str (Str.ofString "save") 491), (.str (Str.ofString "word") 492), (.str (Str.ofString "table_thing") 493), (.str (Str.ofString "key") 494), (.str (Str.ofString "old") 495)].toArray 0) #[]
noncomputable def o242 (P : Params) : Obj := Obj.mk (.type "tuple") none (.seq [].toArray 0) #[]
noncomputable def o243 (P : Params) : Obj := Obj.mk .none none (.func (FuncData.mk (Str.ofString "undo_helem") (Str.ofString "undo_helem") P24 (.stmts B24) Sc24 0 [] .none .none .none .none none .none .none 0)) #[]
noncomputable def o244 (P : Params) : Obj := Obj.mk (.type "code") none (.fields [(.str (Str.ofString "undo_helem") 487), (.str (Str.ofString "undo_helem") 488), (.str (Str.ofString "/claim/cut.py") 489), (.int 118 0), (.int 2 0), (.int 0 0), (.int 0 0), (.int 3 0), (.ref 239), (.bool true), (.int 181 0), (.ref 240), .none, (.ref 241), (.ref 242), (.ref 243), (.int 496 0), (.int 118 0), (.str (Str.ofString "/claim/cut.py") 497)].toArray) #[]
noncomputable def o245 (P : Params) : Obj := Obj.mk (.type "function") none (.func (FuncData.mk (Str.ofString "undo_helem") (Str.ofString "undo_helem") P24 (.stmts B24) Sc24 3 [] .none .none .none (.str (Str.ofString "perlcore.dynamic") 406) none (.ref 244) .none 0)) #[]
noncomputable def o246 (P : Params) : Obj := Obj.mk (.type "tuple") none (.seq [].toArray 0) #[]
noncomputable def o247 (P : Params) : Obj := Obj.mk .none none (.fields [].toArray) #[]
noncomputable def o248 (P : Params) : Obj := Obj.mk (.type "tuple") none (.seq [(.str (Str.ofString "run") 502), (.str (Str.ofString "save") 503), (.str (Str.ofString "word") 504), (.str (Str.ofString "tied") 505), (.str (Str.ofString "key") 506), (.str (Str.ofString "kept") 507)].toArray 0) #[]
noncomputable def o249 (P : Params) : Obj := Obj.mk (.type "tuple") none (.seq [].toArray 0) #[]
noncomputable def o250 (P : Params) : Obj := Obj.mk .none none (.func (FuncData.mk (Str.ofString "undo_tied") (Str.ofString "undo_tied") P25 (.stmts B25) Sc25 0 [] .none .none .none .none none .none .none 0)) #[]
noncomputable def o251 (P : Params) : Obj := Obj.mk (.type "code") none (.fields [(.str (Str.ofString "undo_tied") 499), (.str (Str.ofString "undo_tied") 500), (.str (Str.ofString "/claim/cut.py") 501), (.int 126 0), (.int 2 0), (.int 0 0), (.int 0 0), (.int 3 0), (.ref 246), (.bool true), (.int 181 0), (.ref 247), .none, (.ref 248), (.ref 249), (.ref 250), (.int 508 0), (.int 126 0), (.str (Str.ofString "/claim/cut.py") 509)].toArray) #[]
noncomputable def o252 (P : Params) : Obj := Obj.mk (.type "function") none (.func (FuncData.mk (Str.ofString "undo_tied") (Str.ofString "undo_tied") P25 (.stmts B25) Sc25 3 [] .none .none .none (.str (Str.ofString "perlcore.dynamic") 406) none (.ref 251) .none 0)) #[]
noncomputable def o253 (P : Params) : Obj := Obj.mk (.type "tuple") none (.seq [].toArray 0) #[]
noncomputable def o254 (P : Params) : Obj := Obj.mk .none none (.fields [].toArray) #[]
noncomputable def o255 (P : Params) : Obj := Obj.mk (.type "tuple") none (.seq [(.str (Str.ofString "run") 514), (.str (Str.ofString "save") 515)].toArray 0) #[]
noncomputable def o256 (P : Params) : Obj := Obj.mk (.type "tuple") none (.seq [].toArray 0) #[]
noncomputable def o257 (P : Params) : Obj := Obj.mk .none none (.func (FuncData.mk (Str.ofString "undo_pad") (Str.ofString "undo_pad") P26 (.stmts B26) Sc26 0 [] .none .none .none .none none .none .none 0)) #[]
noncomputable def o258 (P : Params) : Obj := Obj.mk (.type "code") none (.fields [(.str (Str.ofString "undo_pad") 511), (.str (Str.ofString "undo_pad") 512), (.str (Str.ofString "/claim/cut.py") 513), (.int 139 0), (.int 2 0), (.int 0 0), (.int 0 0), (.int 3 0), (.ref 253), (.bool true), (.int 181 0), (.ref 254), .none, (.ref 255), (.ref 256), (.ref 257), (.int 516 0), (.int 139 0), (.str (Str.ofString "/claim/cut.py") 517)].toArray) #[]
noncomputable def o259 (P : Params) : Obj := Obj.mk (.type "function") none (.func (FuncData.mk (Str.ofString "undo_pad") (Str.ofString "undo_pad") P26 (.stmts B26) Sc26 3 [] .none .none .none (.str (Str.ofString "perlcore.dynamic") 406) none (.ref 258) .none 0)) #[]
noncomputable def o260 (P : Params) : Obj := Obj.mk (.type "tuple") none (.seq [].toArray 0) #[]
noncomputable def o261 (P : Params) : Obj := Obj.mk .none none (.fields [].toArray) #[]
noncomputable def o262 (P : Params) : Obj := Obj.mk (.type "tuple") none (.seq [(.str (Str.ofString "run") 522), (.str (Str.ofString "save") 523)].toArray 0) #[]
noncomputable def o263 (P : Params) : Obj := Obj.mk (.type "tuple") none (.seq [].toArray 0) #[]
noncomputable def o264 (P : Params) : Obj := Obj.mk .none none (.func (FuncData.mk (Str.ofString "undo_slot") (Str.ofString "undo_slot") P27 (.stmts B27) Sc27 0 [] .none .none .none .none none .none .none 0)) #[]
noncomputable def o265 (P : Params) : Obj := Obj.mk (.type "code") none (.fields [(.str (Str.ofString "undo_slot") 519), (.str (Str.ofString "undo_slot") 520), (.str (Str.ofString "/claim/cut.py") 521), (.int 142 0), (.int 2 0), (.int 0 0), (.int 0 0), (.int 3 0), (.ref 260), (.bool true), (.int 181 0), (.ref 261), .none, (.ref 262), (.ref 263), (.ref 264), (.int 524 0), (.int 142 0), (.str (Str.ofString "/claim/cut.py") 525)].toArray) #[]
noncomputable def o266 (P : Params) : Obj := Obj.mk (.type "function") none (.func (FuncData.mk (Str.ofString "undo_slot") (Str.ofString "undo_slot") P27 (.stmts B27) Sc27 3 [] .none .none .none (.str (Str.ofString "perlcore.dynamic") 406) none (.ref 265) .none 0)) #[]
noncomputable def o267 (P : Params) : Obj := Obj.mk (.type "tuple") none (.seq [].toArray 0) #[]
noncomputable def o268 (P : Params) : Obj := Obj.mk .none none (.fields [].toArray) #[]
noncomputable def o269 (P : Params) : Obj := Obj.mk (.type "tuple") none (.seq [(.str (Str.ofString "run") 530), (.str (Str.ofString "save") 531)].toArray 0) #[]
noncomputable def o270 (P : Params) : Obj := Obj.mk (.type "tuple") none (.seq [].toArray 0) #[]
noncomputable def o271 (P : Params) : Obj := Obj.mk .none none (.func (FuncData.mk (Str.ofString "undo_match") (Str.ofString "undo_match") P28 (.stmts B28) Sc28 0 [] .none .none .none .none none .none .none 0)) #[]
noncomputable def o272 (P : Params) : Obj := Obj.mk (.type "code") none (.fields [(.str (Str.ofString "undo_match") 527), (.str (Str.ofString "undo_match") 528), (.str (Str.ofString "/claim/cut.py") 529), (.int 145 0), (.int 2 0), (.int 0 0), (.int 0 0), (.int 3 0), (.ref 267), (.bool true), (.int 181 0), (.ref 268), .none, (.ref 269), (.ref 270), (.ref 271), (.int 532 0), (.int 145 0), (.str (Str.ofString "/claim/cut.py") 533)].toArray) #[]
noncomputable def o273 (P : Params) : Obj := Obj.mk (.type "function") none (.func (FuncData.mk (Str.ofString "undo_match") (Str.ofString "undo_match") P28 (.stmts B28) Sc28 3 [] .none .none .none (.str (Str.ofString "perlcore.dynamic") 406) none (.ref 272) .none 0)) #[]
noncomputable def o274 (P : Params) : Obj := Obj.mk (.type "tuple") none (.seq [].toArray 0) #[]
noncomputable def o275 (P : Params) : Obj := Obj.mk .none none (.fields [].toArray) #[]
noncomputable def o276 (P : Params) : Obj := Obj.mk (.type "tuple") none (.seq [(.str (Str.ofString "run") 538), (.str (Str.ofString "save") 539)].toArray 0) #[]
noncomputable def o277 (P : Params) : Obj := Obj.mk (.type "tuple") none (.seq [].toArray 0) #[]
noncomputable def o278 (P : Params) : Obj := Obj.mk .none none (.func (FuncData.mk (Str.ofString "undo_package") (Str.ofString "undo_package") P29 (.stmts B29) Sc29 0 [] .none .none .none .none none .none .none 0)) #[]
noncomputable def o279 (P : Params) : Obj := Obj.mk (.type "code") none (.fields [(.str (Str.ofString "undo_package") 535), (.str (Str.ofString "undo_package") 536), (.str (Str.ofString "/claim/cut.py") 537), (.int 148 0), (.int 2 0), (.int 0 0), (.int 0 0), (.int 3 0), (.ref 274), (.bool true), (.int 181 0), (.ref 275), .none, (.ref 276), (.ref 277), (.ref 278), (.int 540 0), (.int 148 0), (.str (Str.ofString "/claim/cut.py") 541)].toArray) #[]
noncomputable def o280 (P : Params) : Obj := Obj.mk (.type "function") none (.func (FuncData.mk (Str.ofString "undo_package") (Str.ofString "undo_package") P29 (.stmts B29) Sc29 3 [] .none .none .none (.str (Str.ofString "perlcore.dynamic") 406) none (.ref 279) .none 0)) #[]
noncomputable def T6p0 (P : Params) : BT := (((((((((((((((((((((((((((((((((((((((((T5 P).ins 3 (o3v6 P)).ins 12 (o12v6 P)).ins 225 (o225 P)).ins 226 (o226 P)).ins 227 (o227 P)).ins 228 (o228 P)).ins 229 (o229 P)).ins 230 (o230 P)).ins 231 (o231 P)).ins 232 (o232 P)).ins 233 (o233 P)).ins 234 (o234 P)).ins 235 (o235 P)).ins 236 (o236 P)).ins 237 (o237 P)).ins 238 (o238 P)).ins 239 (o239 P)).ins 240 (o240 P)).ins 241 (o241 P)).ins 242 (o242 P)).ins 243 (o243 P)).ins 244 (o244 P)).ins 245 (o245 P)).ins 246 (o246 P)).ins 247 (o247 P)).ins 248 (o248 P)).ins 249 (o249 P)).ins 250 (o250 P)).ins 251 (o251 P)).ins 252 (o252 P)).ins 253 (o253 P)).ins 254 (o254 P)).ins 255 (o255 P)).ins 256 (o256 P)).ins 257 (o257 P)).ins 258 (o258 P)).ins 259 (o259 P)).ins 260 (o260 P)).ins 261 (o261 P)).ins 262 (o262 P))
noncomputable def T6 (P : Params) : BT := (((((((((((((((((((T6p0 P).ins 263 (o263 P)).ins 264 (o264 P)).ins 265 (o265 P)).ins 266 (o266 P)).ins 267 (o267 P)).ins 268 (o268 P)).ins 269 (o269 P)).ins 270 (o270 P)).ins 271 (o271 P)).ins 272 (o272 P)).ins 273 (o273 P)).ins 274 (o274 P)).ins 275 (o275 P)).ins 276 (o276 P)).ins 277 (o277 P)).ins 278 (o278 P)).ins 279 (o279 P)).ins 280 (o280 P))
@[reducible] noncomputable def sts5 : List Stmt := (bodyE.drop 22).take 8
theorem q5 : ∀ w : World, (fun os => sgT w 254 ⟨T5 w.params, 225, {}, ⟨[]⟩, {}, 466, os⟩ (thr sts5 ⟨97, 0, 99, 26⟩)) = fun os => some (Flow.next, ⟨T6 w.params, 281, {}, ⟨[]⟩, {}, 543, os⟩, cE, ⟨148, 0, 149, 29⟩) := fun w => by kernel_rfl
noncomputable def d3v7 (P : Params) : List DictEntry := [E P "UNDOERS" 567 (.ref 281), E P "leave" 576 (.ref 288)]
noncomputable def n3v7 (P : Params) : List DictEntry := d3v1 P ++ (d3v2 P ++ (d3v3 P ++ (d3v4 P ++ (d3v5 P ++ (d3v6 P ++ d3v7 P)))))
noncomputable def o3v7 (P : Params) : Obj := Obj.mk (.type "dict") none (.dict ([E P "__name__" 165 (.str (Str.ofString "perlcore.errors") 577), E P "__doc__" 166 .none, E P "__package__" 167 .none, E P "__loader__" 168 (.builtin "__main__.__loader__#opaque"), E P "__spec__" 169 .none, E P "__annotations__" 170 (.ref 6), E P "__builtins__" 171 (.ref 4), E P "__file__" 173 (.str (Str.ofString "/claim/cut.py") 172), E P "__cached__" 174 .none] ++ n3v7 P : List DictEntry).toArray 36) #[]
noncomputable def d12v7 : List Value := [(.int 151 0), (.int 0 0), (.ref 287)]
noncomputable def n12v7 : List Value := d12v1 ++ (d12v2 ++ (d12v3 ++ (d12v4 ++ (d12v5 ++ (d12v6 ++ d12v7)))))
noncomputable def o12v7 (P : Params) : Obj := Obj.mk .none none (.fields (n12v7).toArray) #[]
noncomputable def o281 (P : Params) : Obj := Obj.mk (.type "dict") none (.dict ([E P "scalar" 543 (.ref 210), E P "array" 544 (.ref 217), E P "hash" 545 (.ref 224), E P "code" 546 (.ref 231), E P "elem" 547 (.ref 238), E P "helem" 548 (.ref 245), E P "pad" 549 (.ref 259), E P "slot" 550 (.ref 266), E P "match" 551 (.ref 273), E P "package" 552 (.ref 280), E P "tiedelem" 553 (.ref 252), E P "tiedkey" 554 (.ref 252)] : List DictEntry).toArray 12) #[]
noncomputable def o282 (P : Params) : Obj := Obj.mk (.type "tuple") none (.seq [].toArray 0) #[]
noncomputable def o283 (P : Params) : Obj := Obj.mk .none none (.fields [].toArray) #[]
noncomputable def o284 (P : Params) : Obj := Obj.mk (.type "tuple") none (.seq [(.str (Str.ofString "run") 571), (.str (Str.ofString "mark") 572), (.str (Str.ofString "save") 573)].toArray 0) #[]
noncomputable def o285 (P : Params) : Obj := Obj.mk (.type "tuple") none (.seq [].toArray 0) #[]
noncomputable def o286 (P : Params) : Obj := Obj.mk .none none (.func (FuncData.mk (Str.ofString "leave") (Str.ofString "leave") P30 (.stmts B30) Sc30 0 [] .none .none .none .none none .none .none 0)) #[]
noncomputable def o287 (P : Params) : Obj := Obj.mk (.type "code") none (.fields [(.str (Str.ofString "leave") 568), (.str (Str.ofString "leave") 569), (.str (Str.ofString "/claim/cut.py") 570), (.int 151 0), (.int 2 0), (.int 0 0), (.int 0 0), (.int 3 0), (.ref 282), (.bool true), (.int 181 0), (.ref 283), .none, (.ref 284), (.ref 285), (.ref 286), (.int 574 0), (.int 151 0), (.str (Str.ofString "/claim/cut.py") 575)].toArray) #[]
noncomputable def o288 (P : Params) : Obj := Obj.mk (.type "function") none (.func (FuncData.mk (Str.ofString "leave") (Str.ofString "leave") P30 (.stmts B30) Sc30 3 [] .none .none .none (.str (Str.ofString "perlcore.dynamic") 406) none (.ref 287) .none 0)) #[]
noncomputable def T7 (P : Params) : BT := (((((((((((T6 P).ins 3 (o3v7 P)).ins 12 (o12v7 P)).ins 281 (o281 P)).ins 282 (o282 P)).ins 283 (o283 P)).ins 284 (o284 P)).ins 285 (o285 P)).ins 286 (o286 P)).ins 287 (o287 P)).ins 288 (o288 P))
@[reducible] noncomputable def sts6 : List Stmt := (bodyE.drop 30).take 3
theorem q6f : ∀ w : World, (fun os => sgT (w.withFollow "special-get-raises" false) 243 ⟨T6 w.params, 281, {}, ⟨[]⟩, {}, 543, os⟩ (thr sts6 ⟨148, 0, 149, 29⟩)) = fun os => some (Flow.next, ⟨T7 w.params, 289, {}, ⟨[]⟩, {}, 579, os⟩, cE, ⟨155, 0, 155, 8⟩) := fun w => by kernel_rfl
theorem q6t : ∀ w : World, (fun os => sgT (w.withFollow "special-get-raises" true) 243 ⟨T6 w.params, 281, {}, ⟨[]⟩, {}, 543, os⟩ (thr sts6 ⟨148, 0, 149, 29⟩)) = fun os => some (Flow.next, ⟨T7 w.params, 289, {}, ⟨[]⟩, {}, 579, os⟩, cE, ⟨155, 0, 155, 8⟩) := fun w => by kernel_rfl
theorem q6 : ∀ w : World, (fun os => sgT w 243 ⟨T6 w.params, 281, {}, ⟨[]⟩, {}, 543, os⟩ (thr sts6 ⟨148, 0, 149, 29⟩)) = fun os => some (Flow.next, ⟨T7 w.params, 289, {}, ⟨[]⟩, {}, 579, os⟩, cE, ⟨155, 0, 155, 8⟩) := fun w => by
  have e := World.withFollow_self w "special-get-raises"
  cases hb : w.params.followText "special-get-raises" <;> rw [hb] at e
  · have h := q6f w; rw [e] at h; exact h
  · have h := q6t w; rw [e] at h; exact h
noncomputable def o2v8 (P : Params) : Obj := Obj.mk .none none (.dict ([E P "type.__subclasses__.Exception.0" 604 (.int 305 0), E P "type.__subclasses__.Exception.n" 605 (.int 1 0)] : List DictEntry).toArray 2) #[]
noncomputable def d3v8 (P : Params) : List DictEntry := [E P "PerlError" 607 (.ref 305)]
noncomputable def n3v8 (P : Params) : List DictEntry := d3v1 P ++ (d3v2 P ++ (d3v3 P ++ (d3v4 P ++ (d3v5 P ++ (d3v6 P ++ (d3v7 P ++ d3v8 P))))))
noncomputable def o3v8 (P : Params) : Obj := Obj.mk (.type "dict") none (.dict ([E P "__name__" 165 (.str (Str.ofString "perlcore.errors") 577), E P "__doc__" 166 .none, E P "__package__" 167 .none, E P "__loader__" 168 (.builtin "__main__.__loader__#opaque"), E P "__spec__" 169 .none, E P "__annotations__" 170 (.ref 6), E P "__builtins__" 171 (.ref 4), E P "__file__" 173 (.str (Str.ofString "/claim/cut.py") 172), E P "__cached__" 174 .none] ++ n3v8 P : List DictEntry).toArray 37) #[]
noncomputable def d12v8 : List Value := [(.int 156 0), (.int 0 0), (.ref 294)]
noncomputable def n12v8 : List Value := d12v1 ++ (d12v2 ++ (d12v3 ++ (d12v4 ++ (d12v5 ++ (d12v6 ++ (d12v7 ++ d12v8))))))
noncomputable def o12v8 (P : Params) : Obj := Obj.mk .none none (.fields (n12v8).toArray) #[]
noncomputable def o289 (P : Params) : Obj := Obj.mk (.type "tuple") none (.seq [(.type "Exception")].toArray 0) #[]
noncomputable def o290 (P : Params) : Obj := Obj.mk (.type "builtin_function_or_method") none (.fields [(.builtin "type.__prepare__"), (.type "type")].toArray) #[]
noncomputable def o291 (P : Params) : Obj := Obj.mk (.type "dict") none (.dict ([E P "__module__" 586 (.str (Str.ofString "perlcore.errors") 577), E P "__qualname__" 588 (.str (Str.ofString "PerlError") 587), E P "__firstlineno__" 590 (.int 156 589), E P "__init__" 598 (.ref 302), E P "__static_attributes__" 600 (.ref 303)] : List DictEntry).toArray 5) #[]
noncomputable def o292 (P : Params) : Obj := Obj.mk (.type "tuple") none (.seq [].toArray 0) #[]
noncomputable def o293 (P : Params) : Obj := Obj.mk .none none (.fields [(.int 158 0), (.int 4 0), (.ref 301)].toArray) #[]
noncomputable def o294 (P : Params) : Obj := Obj.mk (.type "code") none (.fields [(.str (Str.ofString "PerlError") 581), (.str (Str.ofString "PerlError") 582), (.str (Str.ofString "/claim/cut.py") 583), (.int 156 0), (.int 0 0), (.int 0 0), (.int 0 0), (.int 0 0), (.ref 292), (.bool false), (.int 181 0), (.ref 293), .none, .none, .none, .none, (.int 584 0), (.int 156 0), (.str (Str.ofString "/claim/cut.py") 585)].toArray) #[]
noncomputable def o295 (P : Params) : Obj := Obj.mk (.type "frame") none .plain [(some (.ref 294)), (some (.ref 3)), (some (.ref 291)), none, (some (.str (Str.ofString "perlcore.errors") 577)), none, (some (.ref 0))].toArray
noncomputable def o296 (P : Params) : Obj := Obj.mk (.type "tuple") none (.seq [].toArray 0) #[]
noncomputable def o297 (P : Params) : Obj := Obj.mk .none none (.fields [].toArray) #[]
noncomputable def o298 (P : Params) : Obj := Obj.mk (.type "tuple") none (.seq [(.str (Str.ofString "self") 594), (.str (Str.ofString "text") 595)].toArray 0) #[]
noncomputable def o299 (P : Params) : Obj := Obj.mk (.type "tuple") none (.seq [].toArray 0) #[]
noncomputable def o300 (P : Params) : Obj := Obj.mk .none none (.func (FuncData.mk (Str.ofString "__init__") (Str.ofString "PerlError.__init__") P31 (.stmts B31) Sc31 0 [] .none .none .none .none none .none .none 0)) #[]
noncomputable def o301 (P : Params) : Obj := Obj.mk (.type "code") none (.fields [(.str (Str.ofString "__init__") 591), (.str (Str.ofString "PerlError.__init__") 592), (.str (Str.ofString "/claim/cut.py") 593), (.int 158 0), (.int 2 0), (.int 0 0), (.int 0 0), (.int 3 0), (.ref 296), (.bool true), (.int 181 0), (.ref 297), .none, (.ref 298), (.ref 299), (.ref 300), (.int 596 0), (.int 158 0), (.str (Str.ofString "/claim/cut.py") 597)].toArray) #[]
noncomputable def o302 (P : Params) : Obj := Obj.mk (.type "function") none (.func (FuncData.mk (Str.ofString "__init__") (Str.ofString "PerlError.__init__") P31 (.stmts B31) Sc31 3 [] .none .none .none (.str (Str.ofString "perlcore.errors") 577) none (.ref 301) .none 0)) #[]
noncomputable def o303 (P : Params) : Obj := Obj.mk (.type "tuple") none (.seq [(.str (Str.ofString "text") 599)].toArray 0) #[]
noncomputable def o304 (P : Params) : Obj := Obj.mk (.type "dict") none (.dict ([E P "__module__" 586 (.str (Str.ofString "perlcore.errors") 577), E P "__firstlineno__" 590 (.int 156 589), E P "__init__" 598 (.ref 302), E P "__static_attributes__" 600 (.ref 303), E P "__weakref__" 602 (.ref 306), E P "__doc__" 603 .none] : List DictEntry).toArray 3) #[]
noncomputable def o305 (P : Params) : Obj := Obj.mk (.type "type") none (.cls (ClassData.mk (Str.ofString "PerlError") [(.type "Exception")] [(.ref 305), (.type "Exception"), (.type "BaseException"), (.type "object")] 304 (Str.ofString "PerlError") true [] [] false none false)) [(some (.ref 289)), none, (some (.str (Str.ofString "PerlError") 579)), (some (.str (Str.ofString "PerlError") 587)), (some (.builtin "Exception.__new__")), (some (.bool true))].toArray
noncomputable def o306 (P : Params) : Obj := Obj.mk (.type "getset_descriptor") none (.fields [(.str (Str.ofString "__weakref__") 601), (.ref 305), (.builtin "ExceptionGroup.__weakref__"), .none].toArray) #[]
noncomputable def o307 (P : Params) : Obj := Obj.mk (.type "super") none (.fields [(.ref 305), (.ref 305), (.ref 305)].toArray) #[]
noncomputable def o308 (P : Params) : Obj := Obj.mk (.type "builtin_function_or_method") none (.fields [(.builtin "object.__init_subclass__"), (.ref 305)].toArray) #[]
noncomputable def T8 (P : Params) : BT := ((((((((((((((((((((((((T7 P).ins 2 (o2v8 P)).ins 3 (o3v8 P)).ins 12 (o12v8 P)).ins 289 (o289 P)).ins 290 (o290 P)).ins 291 (o291 P)).ins 292 (o292 P)).ins 293 (o293 P)).ins 294 (o294 P)).ins 295 (o295 P)).ins 296 (o296 P)).ins 297 (o297 P)).ins 298 (o298 P)).ins 299 (o299 P)).ins 300 (o300 P)).ins 301 (o301 P)).ins 302 (o302 P)).ins 303 (o303 P)).ins 304 (o304 P)).ins 305 (o305 P)).ins 306 (o306 P)).ins 307 (o307 P)).ins 308 (o308 P))
@[reducible] noncomputable def sts7 : List Stmt := (bodyE.drop 33).take 1
theorem q7 : ∀ w : World, (fun os => sgT w 229 ⟨T7 w.params, 289, {}, ⟨[]⟩, {}, 579, os⟩ (thr sts7 ⟨155, 0, 155, 8⟩)) = fun os => some (Flow.next, ⟨T8 w.params, 309, {}, ⟨[]⟩, {}, 608, os⟩, cE, ⟨156, 0, 160, 24⟩) := fun w => by kernel_rfl
noncomputable def d3v9 (P : Params) : List DictEntry := [E P "Die" 632 (.ref 325)]
noncomputable def n3v9 (P : Params) : List DictEntry := d3v1 P ++ (d3v2 P ++ (d3v3 P ++ (d3v4 P ++ (d3v5 P ++ (d3v6 P ++ (d3v7 P ++ (d3v8 P ++ d3v9 P)))))))
noncomputable def o3v9 (P : Params) : Obj := Obj.mk (.type "dict") none (.dict ([E P "__name__" 165 (.str (Str.ofString "perlcore.errors") 577), E P "__doc__" 166 .none, E P "__package__" 167 .none, E P "__loader__" 168 (.builtin "__main__.__loader__#opaque"), E P "__spec__" 169 .none, E P "__annotations__" 170 (.ref 6), E P "__builtins__" 171 (.ref 4), E P "__file__" 173 (.str (Str.ofString "/claim/cut.py") 172), E P "__cached__" 174 .none] ++ n3v9 P : List DictEntry).toArray 38) #[]
noncomputable def d12v9 : List Value := [(.int 161 0), (.int 0 0), (.ref 314)]
noncomputable def n12v9 : List Value := d12v1 ++ (d12v2 ++ (d12v3 ++ (d12v4 ++ (d12v5 ++ (d12v6 ++ (d12v7 ++ (d12v8 ++ d12v9)))))))
noncomputable def o12v9 (P : Params) : Obj := Obj.mk .none none (.fields (n12v9).toArray) #[]
noncomputable def o305v9 (P : Params) : Obj := Obj.mk (.type "type") none (.cls (ClassData.mk (Str.ofString "PerlError") [(.type "Exception")] [(.ref 305), (.type "Exception"), (.type "BaseException"), (.type "object")] 304 (Str.ofString "PerlError") true [] [(.ref 325)] false none false)) [(some (.ref 289)), none, (some (.str (Str.ofString "PerlError") 579)), (some (.str (Str.ofString "PerlError") 587)), (some (.builtin "Exception.__new__")), (some (.bool true))].toArray
noncomputable def o309 (P : Params) : Obj := Obj.mk (.type "tuple") none (.seq [(.ref 305)].toArray 0) #[]
noncomputable def o310 (P : Params) : Obj := Obj.mk (.type "builtin_function_or_method") none (.fields [(.builtin "type.__prepare__"), (.type "type")].toArray) #[]
noncomputable def o311 (P : Params) : Obj := Obj.mk (.type "dict") none (.dict ([E P "__module__" 615 (.str (Str.ofString "perlcore.errors") 577), E P "__qualname__" 617 (.str (Str.ofString "Die") 616), E P "__firstlineno__" 619 (.int 161 618), E P "__init__" 627 (.ref 322), E P "__static_attributes__" 629 (.ref 323)] : List DictEntry).toArray 5) #[]
noncomputable def o312 (P : Params) : Obj := Obj.mk (.type "tuple") none (.seq [].toArray 0) #[]
noncomputable def o313 (P : Params) : Obj := Obj.mk .none none (.fields [(.int 163 0), (.int 4 0), (.ref 321)].toArray) #[]
noncomputable def o314 (P : Params) : Obj := Obj.mk (.type "code") none (.fields [(.str (Str.ofString "Die") 610), (.str (Str.ofString "Die") 611), (.str (Str.ofString "/claim/cut.py") 612), (.int 161 0), (.int 0 0), (.int 0 0), (.int 0 0), (.int 0 0), (.ref 312), (.bool false), (.int 181 0), (.ref 313), .none, .none, .none, .none, (.int 613 0), (.int 161 0), (.str (Str.ofString "/claim/cut.py") 614)].toArray) #[]
noncomputable def o315 (P : Params) : Obj := Obj.mk (.type "frame") none .plain [(some (.ref 314)), (some (.ref 3)), (some (.ref 311)), none, (some (.str (Str.ofString "perlcore.errors") 577)), none, (some (.ref 0))].toArray
noncomputable def o316 (P : Params) : Obj := Obj.mk (.type "tuple") none (.seq [].toArray 0) #[]
noncomputable def o317 (P : Params) : Obj := Obj.mk .none none (.fields [].toArray) #[]
noncomputable def o318 (P : Params) : Obj := Obj.mk (.type "tuple") none (.seq [(.str (Str.ofString "self") 623), (.str (Str.ofString "value") 624)].toArray 0) #[]
noncomputable def o319 (P : Params) : Obj := Obj.mk (.type "tuple") none (.seq [].toArray 0) #[]
noncomputable def o320 (P : Params) : Obj := Obj.mk .none none (.func (FuncData.mk (Str.ofString "__init__") (Str.ofString "Die.__init__") P32 (.stmts B32) Sc32 0 [] .none .none .none .none none .none .none 0)) #[]
noncomputable def o321 (P : Params) : Obj := Obj.mk (.type "code") none (.fields [(.str (Str.ofString "__init__") 620), (.str (Str.ofString "Die.__init__") 621), (.str (Str.ofString "/claim/cut.py") 622), (.int 163 0), (.int 2 0), (.int 0 0), (.int 0 0), (.int 3 0), (.ref 316), (.bool true), (.int 181 0), (.ref 317), .none, (.ref 318), (.ref 319), (.ref 320), (.int 625 0), (.int 163 0), (.str (Str.ofString "/claim/cut.py") 626)].toArray) #[]
noncomputable def o322 (P : Params) : Obj := Obj.mk (.type "function") none (.func (FuncData.mk (Str.ofString "__init__") (Str.ofString "Die.__init__") P32 (.stmts B32) Sc32 3 [] .none .none .none (.str (Str.ofString "perlcore.errors") 577) none (.ref 321) .none 0)) #[]
noncomputable def o323 (P : Params) : Obj := Obj.mk (.type "tuple") none (.seq [(.str (Str.ofString "value") 628)].toArray 0) #[]
noncomputable def o324 (P : Params) : Obj := Obj.mk (.type "dict") none (.dict ([E P "__module__" 615 (.str (Str.ofString "perlcore.errors") 577), E P "__firstlineno__" 619 (.int 161 618), E P "__init__" 627 (.ref 322), E P "__static_attributes__" 629 (.ref 323), E P "__doc__" 630 .none] : List DictEntry).toArray 2) #[]
noncomputable def o325 (P : Params) : Obj := Obj.mk (.type "type") none (.cls (ClassData.mk (Str.ofString "Die") [(.ref 305)] [(.ref 325), (.ref 305), (.type "Exception"), (.type "BaseException"), (.type "object")] 324 (Str.ofString "Die") true [] [] false none false)) [(some (.ref 309)), none, (some (.str (Str.ofString "Die") 608)), (some (.str (Str.ofString "Die") 616)), (some (.builtin "Exception.__new__")), (some (.bool true))].toArray
noncomputable def o326 (P : Params) : Obj := Obj.mk (.type "super") none (.fields [(.ref 325), (.ref 325), (.ref 325)].toArray) #[]
noncomputable def o327 (P : Params) : Obj := Obj.mk (.type "builtin_function_or_method") none (.fields [(.builtin "object.__init_subclass__"), (.ref 325)].toArray) #[]
noncomputable def T9 (P : Params) : BT := (((((((((((((((((((((((T8 P).ins 3 (o3v9 P)).ins 12 (o12v9 P)).ins 305 (o305v9 P)).ins 309 (o309 P)).ins 310 (o310 P)).ins 311 (o311 P)).ins 312 (o312 P)).ins 313 (o313 P)).ins 314 (o314 P)).ins 315 (o315 P)).ins 316 (o316 P)).ins 317 (o317 P)).ins 318 (o318 P)).ins 319 (o319 P)).ins 320 (o320 P)).ins 321 (o321 P)).ins 322 (o322 P)).ins 323 (o323 P)).ins 324 (o324 P)).ins 325 (o325 P)).ins 326 (o326 P)).ins 327 (o327 P))
@[reducible] noncomputable def sts8 : List Stmt := (bodyE.drop 34).take 1
theorem q8 : ∀ w : World, (fun os => sgT w 246 ⟨T8 w.params, 309, {}, ⟨[]⟩, {}, 608, os⟩ (thr sts8 ⟨156, 0, 160, 24⟩)) = fun os => some (Flow.next, ⟨T9 w.params, 328, {}, ⟨[]⟩, {}, 633, os⟩, cE, ⟨161, 0, 165, 26⟩) := fun w => by kernel_rfl
noncomputable def d3v10 (P : Params) : List DictEntry := [E P "BadPattern" 658 (.ref 344), E P "ONE_SIGN" 664 (.ref 347)]
noncomputable def n3v10 (P : Params) : List DictEntry := d3v1 P ++ (d3v2 P ++ (d3v3 P ++ (d3v4 P ++ (d3v5 P ++ (d3v6 P ++ (d3v7 P ++ (d3v8 P ++ (d3v9 P ++ d3v10 P))))))))
noncomputable def o3v10 (P : Params) : Obj := Obj.mk (.type "dict") none (.dict ([E P "__name__" 165 (.str (Str.ofString "perlcore.recompile") 659), E P "__doc__" 166 .none, E P "__package__" 167 .none, E P "__loader__" 168 (.builtin "__main__.__loader__#opaque"), E P "__spec__" 169 .none, E P "__annotations__" 170 (.ref 6), E P "__builtins__" 171 (.ref 4), E P "__file__" 173 (.str (Str.ofString "/claim/cut.py") 172), E P "__cached__" 174 .none] ++ n3v10 P : List DictEntry).toArray 40) #[]
noncomputable def d12v10 : List Value := [(.int 166 0), (.int 0 0), (.ref 333)]
noncomputable def n12v10 : List Value := d12v1 ++ (d12v2 ++ (d12v3 ++ (d12v4 ++ (d12v5 ++ (d12v6 ++ (d12v7 ++ (d12v8 ++ (d12v9 ++ d12v10))))))))
noncomputable def o12v10 (P : Params) : Obj := Obj.mk .none none (.fields (n12v10).toArray) #[]
noncomputable def o305v10 (P : Params) : Obj := Obj.mk (.type "type") none (.cls (ClassData.mk (Str.ofString "PerlError") [(.type "Exception")] [(.ref 305), (.type "Exception"), (.type "BaseException"), (.type "object")] 304 (Str.ofString "PerlError") true [] [(.ref 325), (.ref 344)] false none false)) [(some (.ref 289)), none, (some (.str (Str.ofString "PerlError") 579)), (some (.str (Str.ofString "PerlError") 587)), (some (.builtin "Exception.__new__")), (some (.bool true))].toArray
noncomputable def o328 (P : Params) : Obj := Obj.mk (.type "tuple") none (.seq [(.ref 305)].toArray 0) #[]
noncomputable def o329 (P : Params) : Obj := Obj.mk (.type "builtin_function_or_method") none (.fields [(.builtin "type.__prepare__"), (.type "type")].toArray) #[]
noncomputable def o330 (P : Params) : Obj := Obj.mk (.type "dict") none (.dict ([E P "__module__" 640 (.str (Str.ofString "perlcore.errors") 577), E P "__qualname__" 642 (.str (Str.ofString "BadPattern") 641), E P "__firstlineno__" 644 (.int 166 643), E P "__init__" 653 (.ref 341), E P "__static_attributes__" 655 (.ref 342)] : List DictEntry).toArray 5) #[]
noncomputable def o331 (P : Params) : Obj := Obj.mk (.type "tuple") none (.seq [].toArray 0) #[]
noncomputable def o332 (P : Params) : Obj := Obj.mk .none none (.fields [(.int 168 0), (.int 4 0), (.ref 340)].toArray) #[]
noncomputable def o333 (P : Params) : Obj := Obj.mk (.type "code") none (.fields [(.str (Str.ofString "BadPattern") 635), (.str (Str.ofString "BadPattern") 636), (.str (Str.ofString "/claim/cut.py") 637), (.int 166 0), (.int 0 0), (.int 0 0), (.int 0 0), (.int 0 0), (.ref 331), (.bool false), (.int 181 0), (.ref 332), .none, .none, .none, .none, (.int 638 0), (.int 166 0), (.str (Str.ofString "/claim/cut.py") 639)].toArray) #[]
noncomputable def o334 (P : Params) : Obj := Obj.mk (.type "frame") none .plain [(some (.ref 333)), (some (.ref 3)), (some (.ref 330)), none, (some (.str (Str.ofString "perlcore.errors") 577)), none, (some (.ref 0))].toArray
noncomputable def o335 (P : Params) : Obj := Obj.mk (.type "tuple") none (.seq [].toArray 0) #[]
noncomputable def o336 (P : Params) : Obj := Obj.mk .none none (.fields [].toArray) #[]
noncomputable def o337 (P : Params) : Obj := Obj.mk (.type "tuple") none (.seq [(.str (Str.ofString "self") 648), (.str (Str.ofString "text") 649), (.str (Str.ofString "at") 650)].toArray 0) #[]
noncomputable def o338 (P : Params) : Obj := Obj.mk (.type "tuple") none (.seq [].toArray 0) #[]
noncomputable def o339 (P : Params) : Obj := Obj.mk .none none (.func (FuncData.mk (Str.ofString "__init__") (Str.ofString "BadPattern.__init__") P33 (.stmts B33) Sc33 0 [] .none .none .none .none none .none .none 0)) #[]
noncomputable def o340 (P : Params) : Obj := Obj.mk (.type "code") none (.fields [(.str (Str.ofString "__init__") 645), (.str (Str.ofString "BadPattern.__init__") 646), (.str (Str.ofString "/claim/cut.py") 647), (.int 168 0), (.int 3 0), (.int 0 0), (.int 0 0), (.int 3 0), (.ref 335), (.bool true), (.int 181 0), (.ref 336), .none, (.ref 337), (.ref 338), (.ref 339), (.int 651 0), (.int 168 0), (.str (Str.ofString "/claim/cut.py") 652)].toArray) #[]
noncomputable def o341 (P : Params) : Obj := Obj.mk (.type "function") none (.func (FuncData.mk (Str.ofString "__init__") (Str.ofString "BadPattern.__init__") P33 (.stmts B33) Sc33 3 [] .none .none .none (.str (Str.ofString "perlcore.errors") 577) none (.ref 340) .none 0)) #[]
noncomputable def o342 (P : Params) : Obj := Obj.mk (.type "tuple") none (.seq [(.str (Str.ofString "at") 654)].toArray 0) #[]
noncomputable def o343 (P : Params) : Obj := Obj.mk (.type "dict") none (.dict ([E P "__module__" 640 (.str (Str.ofString "perlcore.errors") 577), E P "__firstlineno__" 644 (.int 166 643), E P "__init__" 653 (.ref 341), E P "__static_attributes__" 655 (.ref 342), E P "__doc__" 656 .none] : List DictEntry).toArray 2) #[]
noncomputable def o344 (P : Params) : Obj := Obj.mk (.type "type") none (.cls (ClassData.mk (Str.ofString "BadPattern") [(.ref 305)] [(.ref 344), (.ref 305), (.type "Exception"), (.type "BaseException"), (.type "object")] 343 (Str.ofString "BadPattern") true [] [] false none false)) [(some (.ref 328)), none, (some (.str (Str.ofString "BadPattern") 633)), (some (.str (Str.ofString "BadPattern") 641)), (some (.builtin "Exception.__new__")), (some (.bool true))].toArray
noncomputable def o345 (P : Params) : Obj := Obj.mk (.type "super") none (.fields [(.ref 344), (.ref 344), (.ref 344)].toArray) #[]
noncomputable def o346 (P : Params) : Obj := Obj.mk (.type "builtin_function_or_method") none (.fields [(.builtin "object.__init_subclass__"), (.ref 344)].toArray) #[]
noncomputable def o347 (P : Params) : Obj := Obj.mk (.type "tuple") none (.seq [(.str (Str.ofString "sign") 661), (.str (Str.ofString "any") 662), (.str (Str.ofString "set") 663)].toArray 0) #[]
noncomputable def T10 (P : Params) : BT := ((((((((((((((((((((((((T9 P).ins 3 (o3v10 P)).ins 12 (o12v10 P)).ins 305 (o305v10 P)).ins 328 (o328 P)).ins 329 (o329 P)).ins 330 (o330 P)).ins 331 (o331 P)).ins 332 (o332 P)).ins 333 (o333 P)).ins 334 (o334 P)).ins 335 (o335 P)).ins 336 (o336 P)).ins 337 (o337 P)).ins 338 (o338 P)).ins 339 (o339 P)).ins 340 (o340 P)).ins 341 (o341 P)).ins 342 (o342 P)).ins 343 (o343 P)).ins 344 (o344 P)).ins 345 (o345 P)).ins 346 (o346 P)).ins 347 (o347 P))
@[reducible] noncomputable def sts9 : List Stmt := (bodyE.drop 35).take 3
theorem q9 : ∀ w : World, (fun os => sgT w 269 ⟨T9 w.params, 328, {}, ⟨[]⟩, {}, 633, os⟩ (thr sts9 ⟨161, 0, 165, 26⟩)) = fun os => some (Flow.next, ⟨T10 w.params, 348, {}, ⟨[]⟩, {}, 665, os⟩, cE, ⟨172, 0, 172, 8⟩) := fun w => by kernel_rfl
noncomputable def d3v11 (P : Params) : List DictEntry := [E P "Program" 699 (.ref 364)]
noncomputable def n3v11 (P : Params) : List DictEntry := d3v1 P ++ (d3v2 P ++ (d3v3 P ++ (d3v4 P ++ (d3v5 P ++ (d3v6 P ++ (d3v7 P ++ (d3v8 P ++ (d3v9 P ++ (d3v10 P ++ d3v11 P)))))))))
noncomputable def o3v11 (P : Params) : Obj := Obj.mk (.type "dict") none (.dict ([E P "__name__" 165 (.str (Str.ofString "perlcore.recompile") 659), E P "__doc__" 166 .none, E P "__package__" 167 .none, E P "__loader__" 168 (.builtin "__main__.__loader__#opaque"), E P "__spec__" 169 .none, E P "__annotations__" 170 (.ref 6), E P "__builtins__" 171 (.ref 4), E P "__file__" 173 (.str (Str.ofString "/claim/cut.py") 172), E P "__cached__" 174 .none] ++ n3v11 P : List DictEntry).toArray 41) #[]
noncomputable def d12v11 : List Value := [(.int 173 0), (.int 0 0), (.ref 353)]
noncomputable def n12v11 : List Value := d12v1 ++ (d12v2 ++ (d12v3 ++ (d12v4 ++ (d12v5 ++ (d12v6 ++ (d12v7 ++ (d12v8 ++ (d12v9 ++ (d12v10 ++ d12v11)))))))))
noncomputable def o12v11 (P : Params) : Obj := Obj.mk .none none (.fields (n12v11).toArray) #[]
noncomputable def o348 (P : Params) : Obj := Obj.mk (.type "tuple") none (.seq [].toArray 0) #[]
noncomputable def o349 (P : Params) : Obj := Obj.mk (.type "builtin_function_or_method") none (.fields [(.builtin "type.__prepare__"), (.type "type")].toArray) #[]
noncomputable def o350 (P : Params) : Obj := Obj.mk (.type "dict") none (.dict ([E P "__module__" 672 (.str (Str.ofString "perlcore.recompile") 659), E P "__qualname__" 674 (.str (Str.ofString "Program") 673), E P "__firstlineno__" 676 (.int 173 675), E P "__init__" 687 (.ref 361), E P "__static_attributes__" 692 (.ref 362)] : List DictEntry).toArray 5) #[]
noncomputable def o351 (P : Params) : Obj := Obj.mk (.type "tuple") none (.seq [].toArray 0) #[]
noncomputable def o352 (P : Params) : Obj := Obj.mk .none none (.fields [(.int 175 0), (.int 4 0), (.ref 360)].toArray) #[]
noncomputable def o353 (P : Params) : Obj := Obj.mk (.type "code") none (.fields [(.str (Str.ofString "Program") 667), (.str (Str.ofString "Program") 668), (.str (Str.ofString "/claim/cut.py") 669), (.int 173 0), (.int 0 0), (.int 0 0), (.int 0 0), (.int 0 0), (.ref 351), (.bool false), (.int 181 0), (.ref 352), .none, .none, .none, .none, (.int 670 0), (.int 173 0), (.str (Str.ofString "/claim/cut.py") 671)].toArray) #[]
noncomputable def o354 (P : Params) : Obj := Obj.mk (.type "frame") none .plain [(some (.ref 353)), (some (.ref 3)), (some (.ref 350)), none, (some (.str (Str.ofString "perlcore.recompile") 659)), none, (some (.ref 0))].toArray
noncomputable def o355 (P : Params) : Obj := Obj.mk (.type "tuple") none (.seq [].toArray 0) #[]
noncomputable def o356 (P : Params) : Obj := Obj.mk .none none (.fields [].toArray) #[]
noncomputable def o357 (P : Params) : Obj := Obj.mk (.type "tuple") none (.seq [(.str (Str.ofString "self") 680), (.str (Str.ofString "rows") 681), (.str (Str.ofString "groups") 682), (.str (Str.ofString "registers") 683), (.str (Str.ofString "names") 684)].toArray 0) #[]
noncomputable def o358 (P : Params) : Obj := Obj.mk (.type "tuple") none (.seq [].toArray 0) #[]
noncomputable def o359 (P : Params) : Obj := Obj.mk .none none (.func (FuncData.mk (Str.ofString "__init__") (Str.ofString "Program.__init__") P34 (.stmts B34) Sc34 0 [] .none .none .none .none none .none .none 0)) #[]
noncomputable def o360 (P : Params) : Obj := Obj.mk (.type "code") none (.fields [(.str (Str.ofString "__init__") 677), (.str (Str.ofString "Program.__init__") 678), (.str (Str.ofString "/claim/cut.py") 679), (.int 175 0), (.int 5 0), (.int 0 0), (.int 0 0), (.int 3 0), (.ref 355), (.bool true), (.int 181 0), (.ref 356), .none, (.ref 357), (.ref 358), (.ref 359), (.int 685 0), (.int 175 0), (.str (Str.ofString "/claim/cut.py") 686)].toArray) #[]
noncomputable def o361 (P : Params) : Obj := Obj.mk (.type "function") none (.func (FuncData.mk (Str.ofString "__init__") (Str.ofString "Program.__init__") P34 (.stmts B34) Sc34 3 [] .none .none .none (.str (Str.ofString "perlcore.recompile") 659) none (.ref 360) .none 0)) #[]
noncomputable def o362 (P : Params) : Obj := Obj.mk (.type "tuple") none (.seq [(.str (Str.ofString "groups") 688), (.str (Str.ofString "names") 689), (.str (Str.ofString "registers") 690), (.str (Str.ofString "rows") 691)].toArray 0) #[]
noncomputable def o363 (P : Params) : Obj := Obj.mk (.type "dict") none (.dict ([E P "__module__" 672 (.str (Str.ofString "perlcore.recompile") 659), E P "__firstlineno__" 676 (.int 173 675), E P "__init__" 687 (.ref 361), E P "__static_attributes__" 692 (.ref 362), E P "__dict__" 694 (.ref 365), E P "__weakref__" 696 (.ref 366), E P "__doc__" 697 .none] : List DictEntry).toArray 4) #[]
noncomputable def o364 (P : Params) : Obj := Obj.mk (.type "type") none (.cls (ClassData.mk (Str.ofString "Program") [(.type "object")] [(.ref 364), (.type "object")] 363 (Str.ofString "Program") true [] [] false none false)) [none, none, (some (.str (Str.ofString "Program") 665)), (some (.str (Str.ofString "Program") 673)), (some (.builtin "object.__new__")), (some (.bool true))].toArray
noncomputable def o365 (P : Params) : Obj := Obj.mk (.type "getset_descriptor") none (.fields [(.str (Str.ofString "__dict__") 693), (.ref 364), (.builtin "function.__dict__"), (.builtin "function.__dict__#set")].toArray) #[]
noncomputable def o366 (P : Params) : Obj := Obj.mk (.type "getset_descriptor") none (.fields [(.str (Str.ofString "__weakref__") 695), (.ref 364), (.builtin "ExceptionGroup.__weakref__"), .none].toArray) #[]
noncomputable def o367 (P : Params) : Obj := Obj.mk (.type "super") none (.fields [(.ref 364), (.ref 364), (.ref 364)].toArray) #[]
noncomputable def o368 (P : Params) : Obj := Obj.mk (.type "builtin_function_or_method") none (.fields [(.builtin "object.__init_subclass__"), (.ref 364)].toArray) #[]
noncomputable def T11 (P : Params) : BT := ((((((((((((((((((((((((T10 P).ins 3 (o3v11 P)).ins 12 (o12v11 P)).ins 348 (o348 P)).ins 349 (o349 P)).ins 350 (o350 P)).ins 351 (o351 P)).ins 352 (o352 P)).ins 353 (o353 P)).ins 354 (o354 P)).ins 355 (o355 P)).ins 356 (o356 P)).ins 357 (o357 P)).ins 358 (o358 P)).ins 359 (o359 P)).ins 360 (o360 P)).ins 361 (o361 P)).ins 362 (o362 P)).ins 363 (o363 P)).ins 364 (o364 P)).ins 365 (o365 P)).ins 366 (o366 P)).ins 367 (o367 P)).ins 368 (o368 P))
@[reducible] noncomputable def sts10 : List Stmt := (bodyE.drop 38).take 1
theorem q10 : ∀ w : World, (fun os => sgT w 229 ⟨T10 w.params, 348, {}, ⟨[]⟩, {}, 665, os⟩ (thr sts10 ⟨172, 0, 172, 8⟩)) = fun os => some (Flow.next, ⟨T11 w.params, 369, {}, ⟨[]⟩, {}, 700, os⟩, cE, ⟨173, 0, 179, 26⟩) := fun w => by kernel_rfl
noncomputable def d3v12 (P : Params) : List DictEntry := [E P "RowMaker" 743 (.ref 399), E P "add_node" 754 (.ref 410), E P "add_branches" 766 (.ref 417), E P "add_atomic" 775 (.ref 424)]
noncomputable def n3v12 (P : Params) : List DictEntry := d3v1 P ++ (d3v2 P ++ (d3v3 P ++ (d3v4 P ++ (d3v5 P ++ (d3v6 P ++ (d3v7 P ++ (d3v8 P ++ (d3v9 P ++ (d3v10 P ++ (d3v11 P ++ d3v12 P))))))))))
noncomputable def o3v12 (P : Params) : Obj := Obj.mk (.type "dict") none (.dict ([E P "__name__" 165 (.str (Str.ofString "perlcore.recompile") 659), E P "__doc__" 166 .none, E P "__package__" 167 .none, E P "__loader__" 168 (.builtin "__main__.__loader__#opaque"), E P "__spec__" 169 .none, E P "__annotations__" 170 (.ref 6), E P "__builtins__" 171 (.ref 4), E P "__file__" 173 (.str (Str.ofString "/claim/cut.py") 172), E P "__cached__" 174 .none] ++ n3v12 P : List DictEntry).toArray 45) #[]
noncomputable def d12v12 : List Value := [(.int 180 0), (.int 0 0), (.ref 374), (.int 193 0), (.int 0 0), (.ref 409), (.int 213 0), (.int 0 0), (.ref 416), (.int 223 0), (.int 0 0), (.ref 423)]
noncomputable def n12v12 : List Value := d12v1 ++ (d12v2 ++ (d12v3 ++ (d12v4 ++ (d12v5 ++ (d12v6 ++ (d12v7 ++ (d12v8 ++ (d12v9 ++ (d12v10 ++ (d12v11 ++ d12v12))))))))))
noncomputable def o12v12 (P : Params) : Obj := Obj.mk .none none (.fields (n12v12).toArray) #[]
noncomputable def o369 (P : Params) : Obj := Obj.mk (.type "tuple") none (.seq [].toArray 0) #[]
noncomputable def o370 (P : Params) : Obj := Obj.mk (.type "builtin_function_or_method") none (.fields [(.builtin "type.__prepare__"), (.type "type")].toArray) #[]
noncomputable def o371 (P : Params) : Obj := Obj.mk (.type "dict") none (.dict ([E P "__module__" 707 (.str (Str.ofString "perlcore.recompile") 659), E P "__qualname__" 709 (.str (Str.ofString "RowMaker") 708), E P "__firstlineno__" 711 (.int 180 710), E P "__init__" 718 (.ref 382), E P "add" 726 (.ref 389), E P "fresh" 733 (.ref 396), E P "__static_attributes__" 736 (.ref 397)] : List DictEntry).toArray 7) #[]
noncomputable def o372 (P : Params) : Obj := Obj.mk (.type "tuple") none (.seq [].toArray 0) #[]
noncomputable def o373 (P : Params) : Obj := Obj.mk .none none (.fields [(.int 182 0), (.int 4 0), (.ref 381), (.int 186 0), (.int 4 0), (.ref 388), (.int 190 0), (.int 4 0), (.ref 395)].toArray) #[]
noncomputable def o374 (P : Params) : Obj := Obj.mk (.type "code") none (.fields [(.str (Str.ofString "RowMaker") 702), (.str (Str.ofString "RowMaker") 703), (.str (Str.ofString "/claim/cut.py") 704), (.int 180 0), (.int 0 0), (.int 0 0), (.int 0 0), (.int 0 0), (.ref 372), (.bool false), (.int 181 0), (.ref 373), .none, .none, .none, .none, (.int 705 0), (.int 180 0), (.str (Str.ofString "/claim/cut.py") 706)].toArray) #[]
noncomputable def o375 (P : Params) : Obj := Obj.mk (.type "frame") none .plain [(some (.ref 374)), (some (.ref 3)), (some (.ref 371)), none, (some (.str (Str.ofString "perlcore.recompile") 659)), none, (some (.ref 0))].toArray
noncomputable def o376 (P : Params) : Obj := Obj.mk (.type "tuple") none (.seq [].toArray 0) #[]
noncomputable def o377 (P : Params) : Obj := Obj.mk .none none (.fields [].toArray) #[]
noncomputable def o378 (P : Params) : Obj := Obj.mk (.type "tuple") none (.seq [(.str (Str.ofString "self") 715)].toArray 0) #[]
noncomputable def o379 (P : Params) : Obj := Obj.mk (.type "tuple") none (.seq [].toArray 0) #[]
noncomputable def o380 (P : Params) : Obj := Obj.mk .none none (.func (FuncData.mk (Str.ofString "__init__") (Str.ofString "RowMaker.__init__") P35 (.stmts B35) Sc35 0 [] .none .none .none .none none .none .none 0)) #[]
noncomputable def o381 (P : Params) : Obj := Obj.mk (.type "code") none (.fields [(.str (Str.ofString "__init__") 712), (.str (Str.ofString "RowMaker.__init__") 713), (.str (Str.ofString "/claim/cut.py") 714), (.int 182 0), (.int 1 0), (.int 0 0), (.int 0 0), (.int 3 0), (.ref 376), (.bool true), (.int 181 0), (.ref 377), .none, (.ref 378), (.ref 379), (.ref 380), (.int 716 0), (.int 182 0), (.str (Str.ofString "/claim/cut.py") 717)].toArray) #[]
noncomputable def o382 (P : Params) : Obj := Obj.mk (.type "function") none (.func (FuncData.mk (Str.ofString "__init__") (Str.ofString "RowMaker.__init__") P35 (.stmts B35) Sc35 3 [] .none .none .none (.str (Str.ofString "perlcore.recompile") 659) none (.ref 381) .none 0)) #[]
noncomputable def o383 (P : Params) : Obj := Obj.mk (.type "tuple") none (.seq [].toArray 0) #[]
noncomputable def o384 (P : Params) : Obj := Obj.mk .none none (.fields [].toArray) #[]
noncomputable def o385 (P : Params) : Obj := Obj.mk (.type "tuple") none (.seq [(.str (Str.ofString "self") 722), (.str (Str.ofString "row") 723)].toArray 0) #[]
noncomputable def o386 (P : Params) : Obj := Obj.mk (.type "tuple") none (.seq [].toArray 0) #[]
noncomputable def o387 (P : Params) : Obj := Obj.mk .none none (.func (FuncData.mk (Str.ofString "add") (Str.ofString "RowMaker.add") P36 (.stmts B36) Sc36 0 [] .none .none .none .none none .none .none 0)) #[]
noncomputable def o388 (P : Params) : Obj := Obj.mk (.type "code") none (.fields [(.str (Str.ofString "add") 719), (.str (Str.ofString "RowMaker.add") 720), (.str (Str.ofString "/claim/cut.py") 721), (.int 186 0), (.int 2 0), (.int 0 0), (.int 0 0), (.int 3 0), (.ref 383), (.bool true), (.int 181 0), (.ref 384), .none, (.ref 385), (.ref 386), (.ref 387), (.int 724 0), (.int 186 0), (.str (Str.ofString "/claim/cut.py") 725)].toArray) #[]
noncomputable def o389 (P : Params) : Obj := Obj.mk (.type "function") none (.func (FuncData.mk (Str.ofString "add") (Str.ofString "RowMaker.add") P36 (.stmts B36) Sc36 3 [] .none .none .none (.str (Str.ofString "perlcore.recompile") 659) none (.ref 388) .none 0)) #[]
noncomputable def o390 (P : Params) : Obj := Obj.mk (.type "tuple") none (.seq [].toArray 0) #[]
noncomputable def o391 (P : Params) : Obj := Obj.mk .none none (.fields [].toArray) #[]
noncomputable def o392 (P : Params) : Obj := Obj.mk (.type "tuple") none (.seq [(.str (Str.ofString "self") 730)].toArray 0) #[]
noncomputable def o393 (P : Params) : Obj := Obj.mk (.type "tuple") none (.seq [].toArray 0) #[]
noncomputable def o394 (P : Params) : Obj := Obj.mk .none none (.func (FuncData.mk (Str.ofString "fresh") (Str.ofString "RowMaker.fresh") P37 (.stmts B37) Sc37 0 [] .none .none .none .none none .none .none 0)) #[]
noncomputable def o395 (P : Params) : Obj := Obj.mk (.type "code") none (.fields [(.str (Str.ofString "fresh") 727), (.str (Str.ofString "RowMaker.fresh") 728), (.str (Str.ofString "/claim/cut.py") 729), (.int 190 0), (.int 1 0), (.int 0 0), (.int 0 0), (.int 3 0), (.ref 390), (.bool true), (.int 181 0), (.ref 391), .none, (.ref 392), (.ref 393), (.ref 394), (.int 731 0), (.int 190 0), (.str (Str.ofString "/claim/cut.py") 732)].toArray) #[]
noncomputable def o396 (P : Params) : Obj := Obj.mk (.type "function") none (.func (FuncData.mk (Str.ofString "fresh") (Str.ofString "RowMaker.fresh") P37 (.stmts B37) Sc37 3 [] .none .none .none (.str (Str.ofString "perlcore.recompile") 659) none (.ref 395) .none 0)) #[]
noncomputable def o397 (P : Params) : Obj := Obj.mk (.type "tuple") none (.seq [(.str (Str.ofString "registers") 734), (.str (Str.ofString "rows") 735)].toArray 0) #[]
noncomputable def o398 (P : Params) : Obj := Obj.mk (.type "dict") none (.dict ([E P "__module__" 707 (.str (Str.ofString "perlcore.recompile") 659), E P "__firstlineno__" 711 (.int 180 710), E P "__init__" 718 (.ref 382), E P "add" 726 (.ref 389), E P "fresh" 733 (.ref 396), E P "__static_attributes__" 736 (.ref 397), E P "__dict__" 738 (.ref 400), E P "__weakref__" 740 (.ref 401), E P "__doc__" 741 .none] : List DictEntry).toArray 4) #[]
noncomputable def o399 (P : Params) : Obj := Obj.mk (.type "type") none (.cls (ClassData.mk (Str.ofString "RowMaker") [(.type "object")] [(.ref 399), (.type "object")] 398 (Str.ofString "RowMaker") true [] [] false none false)) [none, none, (some (.str (Str.ofString "RowMaker") 700)), (some (.str (Str.ofString "RowMaker") 708)), (some (.builtin "object.__new__")), (some (.bool true))].toArray
noncomputable def o400 (P : Params) : Obj := Obj.mk (.type "getset_descriptor") none (.fields [(.str (Str.ofString "__dict__") 737), (.ref 399), (.builtin "function.__dict__"), (.builtin "function.__dict__#set")].toArray) #[]
noncomputable def o401 (P : Params) : Obj := Obj.mk (.type "getset_descriptor") none (.fields [(.str (Str.ofString "__weakref__") 739), (.ref 399), (.builtin "ExceptionGroup.__weakref__"), .none].toArray) #[]
noncomputable def o402 (P : Params) : Obj := Obj.mk (.type "super") none (.fields [(.ref 399), (.ref 399), (.ref 399)].toArray) #[]
noncomputable def o403 (P : Params) : Obj := Obj.mk (.type "builtin_function_or_method") none (.fields [(.builtin "object.__init_subclass__"), (.ref 399)].toArray) #[]
noncomputable def o404 (P : Params) : Obj := Obj.mk (.type "tuple") none (.seq [].toArray 0) #[]
noncomputable def o405 (P : Params) : Obj := Obj.mk .none none (.fields [].toArray) #[]
noncomputable def o406 (P : Params) : Obj := Obj.mk (.type "tuple") none (.seq [(.str (Str.ofString "maker") 747), (.str (Str.ofString "node") 748), (.str (Str.ofString "word") 749), (.str (Str.ofString "one") 750), (.str (Str.ofString "register") 751)].toArray 0) #[]
noncomputable def o407 (P : Params) : Obj := Obj.mk (.type "tuple") none (.seq [].toArray 0) #[]
noncomputable def o408 (P : Params) : Obj := Obj.mk .none none (.func (FuncData.mk (Str.ofString "add_node") (Str.ofString "add_node") P38 (.stmts B38) Sc38 0 [] .none .none .none .none none .none .none 0)) #[]
noncomputable def o409 (P : Params) : Obj := Obj.mk (.type "code") none (.fields [(.str (Str.ofString "add_node") 744), (.str (Str.ofString "add_node") 745), (.str (Str.ofString "/claim/cut.py") 746), (.int 193 0), (.int 2 0), (.int 0 0), (.int 0 0), (.int 3 0), (.ref 404), (.bool true), (.int 181 0), (.ref 405), .none, (.ref 406), (.ref 407), (.ref 408), (.int 752 0), (.int 193 0), (.str (Str.ofString "/claim/cut.py") 753)].toArray) #[]
noncomputable def o410 (P : Params) : Obj := Obj.mk (.type "function") none (.func (FuncData.mk (Str.ofString "add_node") (Str.ofString "add_node") P38 (.stmts B38) Sc38 3 [] .none .none .none (.str (Str.ofString "perlcore.recompile") 659) none (.ref 409) .none 0)) #[]
noncomputable def o411 (P : Params) : Obj := Obj.mk (.type "tuple") none (.seq [].toArray 0) #[]
noncomputable def o412 (P : Params) : Obj := Obj.mk .none none (.fields [].toArray) #[]
noncomputable def o413 (P : Params) : Obj := Obj.mk (.type "tuple") none (.seq [(.str (Str.ofString "maker") 758), (.str (Str.ofString "branches") 759), (.str (Str.ofString "jumps") 760), (.str (Str.ofString "one") 761), (.str (Str.ofString "split") 762), (.str (Str.ofString "at") 763)].toArray 0) #[]
noncomputable def o414 (P : Params) : Obj := Obj.mk (.type "tuple") none (.seq [].toArray 0) #[]
noncomputable def o415 (P : Params) : Obj := Obj.mk .none none (.func (FuncData.mk (Str.ofString "add_branches") (Str.ofString "add_branches") P39 (.stmts B39) Sc39 0 [] .none .none .none .none none .none .none 0)) #[]
noncomputable def o416 (P : Params) : Obj := Obj.mk (.type "code") none (.fields [(.str (Str.ofString "add_branches") 755), (.str (Str.ofString "add_branches") 756), (.str (Str.ofString "/claim/cut.py") 757), (.int 213 0), (.int 2 0), (.int 0 0), (.int 0 0), (.int 3 0), (.ref 411), (.bool true), (.int 181 0), (.ref 412), .none, (.ref 413), (.ref 414), (.ref 415), (.int 764 0), (.int 213 0), (.str (Str.ofString "/claim/cut.py") 765)].toArray) #[]
noncomputable def o417 (P : Params) : Obj := Obj.mk (.type "function") none (.func (FuncData.mk (Str.ofString "add_branches") (Str.ofString "add_branches") P39 (.stmts B39) Sc39 3 [] .none .none .none (.str (Str.ofString "perlcore.recompile") 659) none (.ref 416) .none 0)) #[]
noncomputable def o418 (P : Params) : Obj := Obj.mk (.type "tuple") none (.seq [].toArray 0) #[]
noncomputable def o419 (P : Params) : Obj := Obj.mk .none none (.fields [].toArray) #[]
noncomputable def o420 (P : Params) : Obj := Obj.mk (.type "tuple") none (.seq [(.str (Str.ofString "maker") 770), (.str (Str.ofString "node") 771), (.str (Str.ofString "register") 772)].toArray 0) #[]
noncomputable def o421 (P : Params) : Obj := Obj.mk (.type "tuple") none (.seq [].toArray 0) #[]
noncomputable def o422 (P : Params) : Obj := Obj.mk .none none (.func (FuncData.mk (Str.ofString "add_atomic") (Str.ofString "add_atomic") P40 (.stmts B40) Sc40 0 [] .none .none .none .none none .none .none 0)) #[]
noncomputable def o423 (P : Params) : Obj := Obj.mk (.type "code") none (.fields [(.str (Str.ofString "add_atomic") 767), (.str (Str.ofString "add_atomic") 768), (.str (Str.ofString "/claim/cut.py") 769), (.int 223 0), (.int 2 0), (.int 0 0), (.int 0 0), (.int 3 0), (.ref 418), (.bool true), (.int 181 0), (.ref 419), .none, (.ref 420), (.ref 421), (.ref 422), (.int 773 0), (.int 223 0), (.str (Str.ofString "/claim/cut.py") 774)].toArray) #[]
noncomputable def o424 (P : Params) : Obj := Obj.mk (.type "function") none (.func (FuncData.mk (Str.ofString "add_atomic") (Str.ofString "add_atomic") P40 (.stmts B40) Sc40 3 [] .none .none .none (.str (Str.ofString "perlcore.recompile") 659) none (.ref 423) .none 0)) #[]
noncomputable def T12p0 (P : Params) : BT := (((((((((((((((((((((((((((((((((((((((((T11 P).ins 3 (o3v12 P)).ins 12 (o12v12 P)).ins 369 (o369 P)).ins 370 (o370 P)).ins 371 (o371 P)).ins 372 (o372 P)).ins 373 (o373 P)).ins 374 (o374 P)).ins 375 (o375 P)).ins 376 (o376 P)).ins 377 (o377 P)).ins 378 (o378 P)).ins 379 (o379 P)).ins 380 (o380 P)).ins 381 (o381 P)).ins 382 (o382 P)).ins 383 (o383 P)).ins 384 (o384 P)).ins 385 (o385 P)).ins 386 (o386 P)).ins 387 (o387 P)).ins 388 (o388 P)).ins 389 (o389 P)).ins 390 (o390 P)).ins 391 (o391 P)).ins 392 (o392 P)).ins 393 (o393 P)).ins 394 (o394 P)).ins 395 (o395 P)).ins 396 (o396 P)).ins 397 (o397 P)).ins 398 (o398 P)).ins 399 (o399 P)).ins 400 (o400 P)).ins 401 (o401 P)).ins 402 (o402 P)).ins 403 (o403 P)).ins 404 (o404 P)).ins 405 (o405 P)).ins 406 (o406 P))
noncomputable def T12 (P : Params) : BT := (((((((((((((((((((T12p0 P).ins 407 (o407 P)).ins 408 (o408 P)).ins 409 (o409 P)).ins 410 (o410 P)).ins 411 (o411 P)).ins 412 (o412 P)).ins 413 (o413 P)).ins 414 (o414 P)).ins 415 (o415 P)).ins 416 (o416 P)).ins 417 (o417 P)).ins 418 (o418 P)).ins 419 (o419 P)).ins 420 (o420 P)).ins 421 (o421 P)).ins 422 (o422 P)).ins 423 (o423 P)).ins 424 (o424 P))
@[reducible] noncomputable def sts11 : List Stmt := (bodyE.drop 39).take 4
theorem q11 : ∀ w : World, (fun os => sgT w 384 ⟨T11 w.params, 369, {}, ⟨[]⟩, {}, 700, os⟩ (thr sts11 ⟨173, 0, 179, 26⟩)) = fun os => some (Flow.next, ⟨T12 w.params, 425, {}, ⟨[]⟩, {}, 776, os⟩, cE, ⟨223, 0, 227, 32⟩) := fun w => by kernel_rfl
noncomputable def d3v13 (P : Params) : List DictEntry := [E P "add_repeats" 788 (.ref 431), E P "add_loop" 803 (.ref 438), E P "add_look" 819 (.ref 445), E P "compile_tree" 829 (.ref 452)]
noncomputable def n3v13 (P : Params) : List DictEntry := d3v1 P ++ (d3v2 P ++ (d3v3 P ++ (d3v4 P ++ (d3v5 P ++ (d3v6 P ++ (d3v7 P ++ (d3v8 P ++ (d3v9 P ++ (d3v10 P ++ (d3v11 P ++ (d3v12 P ++ d3v13 P)))))))))))
noncomputable def o3v13 (P : Params) : Obj := Obj.mk (.type "dict") none (.dict ([E P "__name__" 165 (.str (Str.ofString "perlcore.signclass") 830), E P "__doc__" 166 .none, E P "__package__" 167 .none, E P "__loader__" 168 (.builtin "__main__.__loader__#opaque"), E P "__spec__" 169 .none, E P "__annotations__" 170 (.ref 6), E P "__builtins__" 171 (.ref 4), E P "__file__" 173 (.str (Str.ofString "/claim/cut.py") 172), E P "__cached__" 174 .none] ++ n3v13 P : List DictEntry).toArray 49) #[]
noncomputable def d12v13 : List Value := [(.int 228 0), (.int 0 0), (.ref 430), (.int 236 0), (.int 0 0), (.ref 437), (.int 245 0), (.int 0 0), (.ref 444), (.int 263 0), (.int 0 0), (.ref 451)]
noncomputable def n12v13 : List Value := d12v1 ++ (d12v2 ++ (d12v3 ++ (d12v4 ++ (d12v5 ++ (d12v6 ++ (d12v7 ++ (d12v8 ++ (d12v9 ++ (d12v10 ++ (d12v11 ++ (d12v12 ++ d12v13)))))))))))
noncomputable def o12v13 (P : Params) : Obj := Obj.mk .none none (.fields (n12v13).toArray) #[]
noncomputable def o425 (P : Params) : Obj := Obj.mk (.type "tuple") none (.seq [].toArray 0) #[]
noncomputable def o426 (P : Params) : Obj := Obj.mk .none none (.fields [].toArray) #[]
noncomputable def o427 (P : Params) : Obj := Obj.mk (.type "tuple") none (.seq [(.str (Str.ofString "maker") 779), (.str (Str.ofString "node") 780), (.str (Str.ofString "word") 781), (.str (Str.ofString "inner") 782), (.str (Str.ofString "least") 783), (.str (Str.ofString "most") 784), (.str (Str.ofString "mode") 785)].toArray 0) #[]
noncomputable def o428 (P : Params) : Obj := Obj.mk (.type "tuple") none (.seq [].toArray 0) #[]
noncomputable def o429 (P : Params) : Obj := Obj.mk .none none (.func (FuncData.mk (Str.ofString "add_repeats") (Str.ofString "add_repeats") P41 (.stmts B41) Sc41 0 [] .none .none .none .none none .none .none 0)) #[]
noncomputable def o430 (P : Params) : Obj := Obj.mk (.type "code") none (.fields [(.str (Str.ofString "add_repeats") 776), (.str (Str.ofString "add_repeats") 777), (.str (Str.ofString "/claim/cut.py") 778), (.int 228 0), (.int 2 0), (.int 0 0), (.int 0 0), (.int 3 0), (.ref 425), (.bool true), (.int 181 0), (.ref 426), .none, (.ref 427), (.ref 428), (.ref 429), (.int 786 0), (.int 228 0), (.str (Str.ofString "/claim/cut.py") 787)].toArray) #[]
noncomputable def o431 (P : Params) : Obj := Obj.mk (.type "function") none (.func (FuncData.mk (Str.ofString "add_repeats") (Str.ofString "add_repeats") P41 (.stmts B41) Sc41 3 [] .none .none .none (.str (Str.ofString "perlcore.recompile") 659) none (.ref 430) .none 0)) #[]
noncomputable def o432 (P : Params) : Obj := Obj.mk (.type "tuple") none (.seq [].toArray 0) #[]
noncomputable def o433 (P : Params) : Obj := Obj.mk .none none (.fields [].toArray) #[]
noncomputable def o434 (P : Params) : Obj := Obj.mk (.type "tuple") none (.seq [(.str (Str.ofString "maker") 792), (.str (Str.ofString "inner") 793), (.str (Str.ofString "least") 794), (.str (Str.ofString "most") 795), (.str (Str.ofString "is_lazy") 796), (.str (Str.ofString "count") 797), (.str (Str.ofString "place") 798), (.str (Str.ofString "loop") 799), (.str (Str.ofString "again") 800)].toArray 0) #[]
noncomputable def o435 (P : Params) : Obj := Obj.mk (.type "tuple") none (.seq [].toArray 0) #[]
noncomputable def o436 (P : Params) : Obj := Obj.mk .none none (.func (FuncData.mk (Str.ofString "add_loop") (Str.ofString "add_loop") P42 (.stmts B42) Sc42 0 [] .none .none .none .none none .none .none 0)) #[]
noncomputable def o437 (P : Params) : Obj := Obj.mk (.type "code") none (.fields [(.str (Str.ofString "add_loop") 789), (.str (Str.ofString "add_loop") 790), (.str (Str.ofString "/claim/cut.py") 791), (.int 236 0), (.int 5 0), (.int 0 0), (.int 0 0), (.int 3 0), (.ref 432), (.bool true), (.int 181 0), (.ref 433), .none, (.ref 434), (.ref 435), (.ref 436), (.int 801 0), (.int 236 0), (.str (Str.ofString "/claim/cut.py") 802)].toArray) #[]
noncomputable def o438 (P : Params) : Obj := Obj.mk (.type "function") none (.func (FuncData.mk (Str.ofString "add_loop") (Str.ofString "add_loop") P42 (.stmts B42) Sc42 3 [] .none .none .none (.str (Str.ofString "perlcore.recompile") 659) none (.ref 437) .none 0)) #[]
noncomputable def o439 (P : Params) : Obj := Obj.mk (.type "tuple") none (.seq [].toArray 0) #[]
noncomputable def o440 (P : Params) : Obj := Obj.mk .none none (.fields [].toArray) #[]
noncomputable def o441 (P : Params) : Obj := Obj.mk (.type "tuple") none (.seq [(.str (Str.ofString "maker") 807), (.str (Str.ofString "node") 808), (.str (Str.ofString "word") 809), (.str (Str.ofString "inner") 810), (.str (Str.ofString "is_behind") 811), (.str (Str.ofString "is_negated") 812), (.str (Str.ofString "width") 813), (.str (Str.ofString "place") 814), (.str (Str.ofString "mark") 815), (.str (Str.ofString "split") 816)].toArray 0) #[]
noncomputable def o442 (P : Params) : Obj := Obj.mk (.type "tuple") none (.seq [].toArray 0) #[]
noncomputable def o443 (P : Params) : Obj := Obj.mk .none none (.func (FuncData.mk (Str.ofString "add_look") (Str.ofString "add_look") P43 (.stmts B43) Sc43 0 [] .none .none .none .none none .none .none 0)) #[]
noncomputable def o444 (P : Params) : Obj := Obj.mk (.type "code") none (.fields [(.str (Str.ofString "add_look") 804), (.str (Str.ofString "add_look") 805), (.str (Str.ofString "/claim/cut.py") 806), (.int 245 0), (.int 2 0), (.int 0 0), (.int 0 0), (.int 3 0), (.ref 439), (.bool true), (.int 181 0), (.ref 440), .none, (.ref 441), (.ref 442), (.ref 443), (.int 817 0), (.int 245 0), (.str (Str.ofString "/claim/cut.py") 818)].toArray) #[]
noncomputable def o445 (P : Params) : Obj := Obj.mk (.type "function") none (.func (FuncData.mk (Str.ofString "add_look") (Str.ofString "add_look") P43 (.stmts B43) Sc43 3 [] .none .none .none (.str (Str.ofString "perlcore.recompile") 659) none (.ref 444) .none 0)) #[]
noncomputable def o446 (P : Params) : Obj := Obj.mk (.type "tuple") none (.seq [].toArray 0) #[]
noncomputable def o447 (P : Params) : Obj := Obj.mk .none none (.fields [].toArray) #[]
noncomputable def o448 (P : Params) : Obj := Obj.mk (.type "tuple") none (.seq [(.str (Str.ofString "node") 823), (.str (Str.ofString "groups") 824), (.str (Str.ofString "names") 825), (.str (Str.ofString "maker") 826)].toArray 0) #[]
noncomputable def o449 (P : Params) : Obj := Obj.mk (.type "tuple") none (.seq [].toArray 0) #[]
noncomputable def o450 (P : Params) : Obj := Obj.mk .none none (.func (FuncData.mk (Str.ofString "compile_tree") (Str.ofString "compile_tree") P44 (.stmts B44) Sc44 0 [] .none .none .none .none none .none .none 0)) #[]
noncomputable def o451 (P : Params) : Obj := Obj.mk (.type "code") none (.fields [(.str (Str.ofString "compile_tree") 820), (.str (Str.ofString "compile_tree") 821), (.str (Str.ofString "/claim/cut.py") 822), (.int 263 0), (.int 3 0), (.int 0 0), (.int 0 0), (.int 3 0), (.ref 446), (.bool true), (.int 181 0), (.ref 447), .none, (.ref 448), (.ref 449), (.ref 450), (.int 827 0), (.int 263 0), (.str (Str.ofString "/claim/cut.py") 828)].toArray) #[]
noncomputable def o452 (P : Params) : Obj := Obj.mk (.type "function") none (.func (FuncData.mk (Str.ofString "compile_tree") (Str.ofString "compile_tree") P44 (.stmts B44) Sc44 3 [] .none .none .none (.str (Str.ofString "perlcore.recompile") 659) none (.ref 451) .none 0)) #[]
noncomputable def T13 (P : Params) : BT := (((((((((((((((((((((((((((((((T12 P).ins 3 (o3v13 P)).ins 12 (o12v13 P)).ins 425 (o425 P)).ins 426 (o426 P)).ins 427 (o427 P)).ins 428 (o428 P)).ins 429 (o429 P)).ins 430 (o430 P)).ins 431 (o431 P)).ins 432 (o432 P)).ins 433 (o433 P)).ins 434 (o434 P)).ins 435 (o435 P)).ins 436 (o436 P)).ins 437 (o437 P)).ins 438 (o438 P)).ins 439 (o439 P)).ins 440 (o440 P)).ins 441 (o441 P)).ins 442 (o442 P)).ins 443 (o443 P)).ins 444 (o444 P)).ins 445 (o445 P)).ins 446 (o446 P)).ins 447 (o447 P)).ins 448 (o448 P)).ins 449 (o449 P)).ins 450 (o450 P)).ins 451 (o451 P)).ins 452 (o452 P))
@[reducible] noncomputable def sts12 : List Stmt := (bodyE.drop 43).take 5
theorem q12 : ∀ w : World, (fun os => sgT w 152 ⟨T12 w.params, 425, {}, ⟨[]⟩, {}, 776, os⟩ (thr sts12 ⟨223, 0, 227, 32⟩)) = fun os => some (Flow.next, ⟨T13 w.params, 453, {}, ⟨[]⟩, {}, 832, os⟩, cE, ⟨268, 0, 268, 8⟩) := fun w => by kernel_rfl
noncomputable def d3v14 (P : Params) : List DictEntry := [E P "POSIX_RANGES" 916 (.ref 453), E P "is_word_sign" 923 (.ref 502)]
noncomputable def n3v14 (P : Params) : List DictEntry := d3v1 P ++ (d3v2 P ++ (d3v3 P ++ (d3v4 P ++ (d3v5 P ++ (d3v6 P ++ (d3v7 P ++ (d3v8 P ++ (d3v9 P ++ (d3v10 P ++ (d3v11 P ++ (d3v12 P ++ (d3v13 P ++ d3v14 P))))))))))))
noncomputable def o3v14 (P : Params) : Obj := Obj.mk (.type "dict") none (.dict ([E P "__name__" 165 (.str (Str.ofString "perlcore.signclass") 830), E P "__doc__" 166 .none, E P "__package__" 167 .none, E P "__loader__" 168 (.builtin "__main__.__loader__#opaque"), E P "__spec__" 169 .none, E P "__annotations__" 170 (.ref 6), E P "__builtins__" 171 (.ref 4), E P "__file__" 173 (.str (Str.ofString "/claim/cut.py") 172), E P "__cached__" 174 .none] ++ n3v14 P : List DictEntry).toArray 51) #[]
noncomputable def d12v14 : List Value := [(.int 270 0), (.int 0 0), (.ref 501)]
noncomputable def n12v14 : List Value := d12v1 ++ (d12v2 ++ (d12v3 ++ (d12v4 ++ (d12v5 ++ (d12v6 ++ (d12v7 ++ (d12v8 ++ (d12v9 ++ (d12v10 ++ (d12v11 ++ (d12v12 ++ (d12v13 ++ d12v14))))))))))))
noncomputable def o12v14 (P : Params) : Obj := Obj.mk .none none (.fields (n12v14).toArray) #[]
noncomputable def o453 (P : Params) : Obj := Obj.mk (.type "dict") none (.dict ([E P "alpha" 832 (.ref 456), E P "digit" 837 (.ref 458), E P "alnum" 840 (.ref 462), E P "upper" 847 (.ref 464), E P "lower" 850 (.ref 466), E P "space" 853 (.ref 469), E P "punct" 858 (.ref 474), E P "xdigit" 867 (.ref 478), E P "word" 874 (.ref 483), E P "cntrl" 883 (.ref 486), E P "print" 888 (.ref 488), E P "graph" 891 (.ref 490), E P "blank" 894 (.ref 493), E P "ascii" 899 (.ref 495)] : List DictEntry).toArray 14) #[]
noncomputable def o454 (P : Params) : Obj := Obj.mk (.type "tuple") none (.seq [(.int 65 833), (.int 90 834)].toArray 0) #[]
noncomputable def o455 (P : Params) : Obj := Obj.mk (.type "tuple") none (.seq [(.int 97 835), (.int 122 836)].toArray 0) #[]
noncomputable def o456 (P : Params) : Obj := Obj.mk (.type "list") none (.seq [(.ref 454), (.ref 455)].toArray 0) #[]
noncomputable def o457 (P : Params) : Obj := Obj.mk (.type "tuple") none (.seq [(.int 48 838), (.int 57 839)].toArray 0) #[]
noncomputable def o458 (P : Params) : Obj := Obj.mk (.type "list") none (.seq [(.ref 457)].toArray 0) #[]
noncomputable def o459 (P : Params) : Obj := Obj.mk (.type "tuple") none (.seq [(.int 48 841), (.int 57 842)].toArray 0) #[]
noncomputable def o460 (P : Params) : Obj := Obj.mk (.type "tuple") none (.seq [(.int 65 843), (.int 90 844)].toArray 0) #[]
noncomputable def o461 (P : Params) : Obj := Obj.mk (.type "tuple") none (.seq [(.int 97 845), (.int 122 846)].toArray 0) #[]
noncomputable def o462 (P : Params) : Obj := Obj.mk (.type "list") none (.seq [(.ref 459), (.ref 460), (.ref 461)].toArray 0) #[]
noncomputable def o463 (P : Params) : Obj := Obj.mk (.type "tuple") none (.seq [(.int 65 848), (.int 90 849)].toArray 0) #[]
noncomputable def o464 (P : Params) : Obj := Obj.mk (.type "list") none (.seq [(.ref 463)].toArray 0) #[]
noncomputable def o465 (P : Params) : Obj := Obj.mk (.type "tuple") none (.seq [(.int 97 851), (.int 122 852)].toArray 0) #[]
noncomputable def o466 (P : Params) : Obj := Obj.mk (.type "list") none (.seq [(.ref 465)].toArray 0) #[]
noncomputable def o467 (P : Params) : Obj := Obj.mk (.type "tuple") none (.seq [(.int 9 854), (.int 13 855)].toArray 0) #[]
noncomputable def o468 (P : Params) : Obj := Obj.mk (.type "tuple") none (.seq [(.int 32 856), (.int 32 857)].toArray 0) #[]
noncomputable def o469 (P : Params) : Obj := Obj.mk (.type "list") none (.seq [(.ref 467), (.ref 468)].toArray 0) #[]
noncomputable def o470 (P : Params) : Obj := Obj.mk (.type "tuple") none (.seq [(.int 33 859), (.int 47 860)].toArray 0) #[]
noncomputable def o471 (P : Params) : Obj := Obj.mk (.type "tuple") none (.seq [(.int 58 861), (.int 64 862)].toArray 0) #[]
noncomputable def o472 (P : Params) : Obj := Obj.mk (.type "tuple") none (.seq [(.int 91 863), (.int 96 864)].toArray 0) #[]
noncomputable def o473 (P : Params) : Obj := Obj.mk (.type "tuple") none (.seq [(.int 123 865), (.int 126 866)].toArray 0) #[]
noncomputable def o474 (P : Params) : Obj := Obj.mk (.type "list") none (.seq [(.ref 470), (.ref 471), (.ref 472), (.ref 473)].toArray 0) #[]
noncomputable def o475 (P : Params) : Obj := Obj.mk (.type "tuple") none (.seq [(.int 48 868), (.int 57 869)].toArray 0) #[]
noncomputable def o476 (P : Params) : Obj := Obj.mk (.type "tuple") none (.seq [(.int 65 870), (.int 70 871)].toArray 0) #[]
noncomputable def o477 (P : Params) : Obj := Obj.mk (.type "tuple") none (.seq [(.int 97 872), (.int 102 873)].toArray 0) #[]
noncomputable def o478 (P : Params) : Obj := Obj.mk (.type "list") none (.seq [(.ref 475), (.ref 476), (.ref 477)].toArray 0) #[]
noncomputable def o479 (P : Params) : Obj := Obj.mk (.type "tuple") none (.seq [(.int 48 875), (.int 57 876)].toArray 0) #[]
noncomputable def o480 (P : Params) : Obj := Obj.mk (.type "tuple") none (.seq [(.int 65 877), (.int 90 878)].toArray 0) #[]
noncomputable def o481 (P : Params) : Obj := Obj.mk (.type "tuple") none (.seq [(.int 95 879), (.int 95 880)].toArray 0) #[]
noncomputable def o482 (P : Params) : Obj := Obj.mk (.type "tuple") none (.seq [(.int 97 881), (.int 122 882)].toArray 0) #[]
noncomputable def o483 (P : Params) : Obj := Obj.mk (.type "list") none (.seq [(.ref 479), (.ref 480), (.ref 481), (.ref 482)].toArray 0) #[]
noncomputable def o484 (P : Params) : Obj := Obj.mk (.type "tuple") none (.seq [(.int 0 884), (.int 31 885)].toArray 0) #[]
noncomputable def o485 (P : Params) : Obj := Obj.mk (.type "tuple") none (.seq [(.int 127 886), (.int 127 887)].toArray 0) #[]
noncomputable def o486 (P : Params) : Obj := Obj.mk (.type "list") none (.seq [(.ref 484), (.ref 485)].toArray 0) #[]
noncomputable def o487 (P : Params) : Obj := Obj.mk (.type "tuple") none (.seq [(.int 32 889), (.int 126 890)].toArray 0) #[]
noncomputable def o488 (P : Params) : Obj := Obj.mk (.type "list") none (.seq [(.ref 487)].toArray 0) #[]
noncomputable def o489 (P : Params) : Obj := Obj.mk (.type "tuple") none (.seq [(.int 33 892), (.int 126 893)].toArray 0) #[]
noncomputable def o490 (P : Params) : Obj := Obj.mk (.type "list") none (.seq [(.ref 489)].toArray 0) #[]
noncomputable def o491 (P : Params) : Obj := Obj.mk (.type "tuple") none (.seq [(.int 9 895), (.int 9 896)].toArray 0) #[]
noncomputable def o492 (P : Params) : Obj := Obj.mk (.type "tuple") none (.seq [(.int 32 897), (.int 32 898)].toArray 0) #[]
noncomputable def o493 (P : Params) : Obj := Obj.mk (.type "list") none (.seq [(.ref 491), (.ref 492)].toArray 0) #[]
noncomputable def o494 (P : Params) : Obj := Obj.mk (.type "tuple") none (.seq [(.int 0 900), (.int 127 901)].toArray 0) #[]
noncomputable def o495 (P : Params) : Obj := Obj.mk (.type "list") none (.seq [(.ref 494)].toArray 0) #[]
noncomputable def o496 (P : Params) : Obj := Obj.mk (.type "tuple") none (.seq [].toArray 0) #[]
noncomputable def o497 (P : Params) : Obj := Obj.mk .none none (.fields [].toArray) #[]
noncomputable def o498 (P : Params) : Obj := Obj.mk (.type "tuple") none (.seq [(.str (Str.ofString "sign") 920)].toArray 0) #[]
noncomputable def o499 (P : Params) : Obj := Obj.mk (.type "tuple") none (.seq [].toArray 0) #[]
noncomputable def o500 (P : Params) : Obj := Obj.mk .none none (.func (FuncData.mk (Str.ofString "is_word_sign") (Str.ofString "is_word_sign") P45 (.stmts B45) Sc45 0 [] .none .none .none .none none .none .none 0)) #[]
noncomputable def o501 (P : Params) : Obj := Obj.mk (.type "code") none (.fields [(.str (Str.ofString "is_word_sign") 917), (.str (Str.ofString "is_word_sign") 918), (.str (Str.ofString "/claim/cut.py") 919), (.int 270 0), (.int 1 0), (.int 0 0), (.int 0 0), (.int 3 0), (.ref 496), (.bool true), (.int 181 0), (.ref 497), .none, (.ref 498), (.ref 499), (.ref 500), (.int 921 0), (.int 270 0), (.str (Str.ofString "/claim/cut.py") 922)].toArray) #[]
noncomputable def o502 (P : Params) : Obj := Obj.mk (.type "function") none (.func (FuncData.mk (Str.ofString "is_word_sign") (Str.ofString "is_word_sign") P45 (.stmts B45) Sc45 3 [] .none .none .none (.str (Str.ofString "perlcore.signclass") 830) none (.ref 501) .none 0)) #[]
noncomputable def T14p0 (P : Params) : BT := (((((((((((((((((((((((((((((((((((((((((T13 P).ins 3 (o3v14 P)).ins 12 (o12v14 P)).ins 453 (o453 P)).ins 454 (o454 P)).ins 455 (o455 P)).ins 456 (o456 P)).ins 457 (o457 P)).ins 458 (o458 P)).ins 459 (o459 P)).ins 460 (o460 P)).ins 461 (o461 P)).ins 462 (o462 P)).ins 463 (o463 P)).ins 464 (o464 P)).ins 465 (o465 P)).ins 466 (o466 P)).ins 467 (o467 P)).ins 468 (o468 P)).ins 469 (o469 P)).ins 470 (o470 P)).ins 471 (o471 P)).ins 472 (o472 P)).ins 473 (o473 P)).ins 474 (o474 P)).ins 475 (o475 P)).ins 476 (o476 P)).ins 477 (o477 P)).ins 478 (o478 P)).ins 479 (o479 P)).ins 480 (o480 P)).ins 481 (o481 P)).ins 482 (o482 P)).ins 483 (o483 P)).ins 484 (o484 P)).ins 485 (o485 P)).ins 486 (o486 P)).ins 487 (o487 P)).ins 488 (o488 P)).ins 489 (o489 P)).ins 490 (o490 P))
noncomputable def T14 (P : Params) : BT := (((((((((((((T14p0 P).ins 491 (o491 P)).ins 492 (o492 P)).ins 493 (o493 P)).ins 494 (o494 P)).ins 495 (o495 P)).ins 496 (o496 P)).ins 497 (o497 P)).ins 498 (o498 P)).ins 499 (o499 P)).ins 500 (o500 P)).ins 501 (o501 P)).ins 502 (o502 P))
@[reducible] noncomputable def sts13 : List Stmt := (bodyE.drop 48).take 2
theorem q13f : ∀ w : World, (fun os => sgT (w.withFollow "special-get-raises" false) 376 ⟨T13 w.params, 453, {}, ⟨[]⟩, {}, 832, os⟩ (thr sts13 ⟨268, 0, 268, 8⟩)) = fun os => some (Flow.next, ⟨T14 w.params, 503, {}, ⟨[]⟩, {}, 924, os⟩, cE, ⟨270, 0, 271, 90⟩) := fun w => by kernel_rfl
theorem q13t : ∀ w : World, (fun os => sgT (w.withFollow "special-get-raises" true) 376 ⟨T13 w.params, 453, {}, ⟨[]⟩, {}, 832, os⟩ (thr sts13 ⟨268, 0, 268, 8⟩)) = fun os => some (Flow.next, ⟨T14 w.params, 503, {}, ⟨[]⟩, {}, 924, os⟩, cE, ⟨270, 0, 271, 90⟩) := fun w => by kernel_rfl
theorem q13 : ∀ w : World, (fun os => sgT w 376 ⟨T13 w.params, 453, {}, ⟨[]⟩, {}, 832, os⟩ (thr sts13 ⟨268, 0, 268, 8⟩)) = fun os => some (Flow.next, ⟨T14 w.params, 503, {}, ⟨[]⟩, {}, 924, os⟩, cE, ⟨270, 0, 271, 90⟩) := fun w => by
  have e := World.withFollow_self w "special-get-raises"
  cases hb : w.params.followText "special-get-raises" <;> rw [hb] at e
  · have h := q13f w; rw [e] at h; exact h
  · have h := q13t w; rw [e] at h; exact h
noncomputable def d3v15 (P : Params) : List DictEntry := [E P "posix_items" 929 (.ref 507), E P "PLAIN_ESCAPES" 950 (.ref 508), E P "OCTAL_FIGURES" 952 (.str (Str.ofString "01234567") 951), E P "HEX_FIGURES" 954 (.str (Str.ofString "0123456789abcdef") 953), E P "CLASS_LETTERS" 956 (.str (Str.ofString "dDwWsShHvV") 955), E P "POSIX_SIGNS" 958 (.str (Str.ofString "abcdefghijklmnopqrstuvwxyz^") 957), E P "MOST_CODE" 960 (.int 1114111 959)]
noncomputable def n3v15 (P : Params) : List DictEntry := d3v1 P ++ (d3v2 P ++ (d3v3 P ++ (d3v4 P ++ (d3v5 P ++ (d3v6 P ++ (d3v7 P ++ (d3v8 P ++ (d3v9 P ++ (d3v10 P ++ (d3v11 P ++ (d3v12 P ++ (d3v13 P ++ (d3v14 P ++ d3v15 P)))))))))))))
noncomputable def o3v15 (P : Params) : Obj := Obj.mk (.type "dict") none (.dict ([E P "__name__" 165 (.str (Str.ofString "perlcore.reescape") 930), E P "__doc__" 166 .none, E P "__package__" 167 .none, E P "__loader__" 168 (.builtin "__main__.__loader__#opaque"), E P "__spec__" 169 .none, E P "__annotations__" 170 (.ref 6), E P "__builtins__" 171 (.ref 4), E P "__file__" 173 (.str (Str.ofString "/claim/cut.py") 172), E P "__cached__" 174 .none] ++ n3v15 P : List DictEntry).toArray 58) #[]
noncomputable def d12v15 : List Value := [(.int 272 0), (.int 0 0), (.ref 506)]
noncomputable def n12v15 : List Value := d12v1 ++ (d12v2 ++ (d12v3 ++ (d12v4 ++ (d12v5 ++ (d12v6 ++ (d12v7 ++ (d12v8 ++ (d12v9 ++ (d12v10 ++ (d12v11 ++ (d12v12 ++ (d12v13 ++ (d12v14 ++ d12v15)))))))))))))
noncomputable def o12v15 (P : Params) : Obj := Obj.mk .none none (.fields (n12v15).toArray) #[]
noncomputable def o503 (P : Params) : Obj := Obj.mk (.type "tuple") none (.seq [].toArray 0) #[]
noncomputable def o504 (P : Params) : Obj := Obj.mk .none none (.fields [].toArray) #[]
noncomputable def o505 (P : Params) : Obj := Obj.mk .none none (.func (FuncData.mk (Str.ofString "posix_items") (Str.ofString "posix_items") P46 (.stmts B46) Sc46 0 [] .none .none .none .none none .none .none 0)) #[]
noncomputable def o506 (P : Params) : Obj := Obj.mk (.type "code") none (.fields [(.str (Str.ofString "posix_items") 924), (.str (Str.ofString "posix_items") 925), (.str (Str.ofString "/claim/cut.py") 926), (.int 272 0), (.int 1 0), (.int 0 0), (.int 0 0), (.int 3 0), (.ref 503), (.bool true), (.int 181 0), (.ref 504), .none, .none, .none, (.ref 505), (.int 927 0), (.int 272 0), (.str (Str.ofString "/claim/cut.py") 928)].toArray) #[]
noncomputable def o507 (P : Params) : Obj := Obj.mk (.type "function") none (.func (FuncData.mk (Str.ofString "posix_items") (Str.ofString "posix_items") P46 (.stmts B46) Sc46 3 [] .none .none .none (.str (Str.ofString "perlcore.signclass") 830) none (.ref 506) .none 0)) #[]
noncomputable def o508 (P : Params) : Obj := Obj.mk (.type "dict") none (.dict ([E P "n" 932 (.str (Str.ofString "\n") 933), E P "t" 934 (.str (Str.ofString "\t") 935), E P "r" 936 (.str (Str.ofString "\r") 937), E P "f" 938 (.str (Str.ofString "\x0c") 939), E P "e" 940 (.str (Str.ofString "\x1b") 941), E P "a" 942 (.str (Str.ofString "\x07") 943)] : List DictEntry).toArray 6) #[]
noncomputable def T15 (P : Params) : BT := (((((((((T14 P).ins 3 (o3v15 P)).ins 12 (o12v15 P)).ins 503 (o503 P)).ins 504 (o504 P)).ins 505 (o505 P)).ins 506 (o506 P)).ins 507 (o507 P)).ins 508 (o508 P))
@[reducible] noncomputable def sts14 : List Stmt := (bodyE.drop 50).take 8
theorem q14f : ∀ w : World, (fun os => sgT (w.withFollow "special-get-raises" false) 181 ⟨T14 w.params, 503, {}, ⟨[]⟩, {}, 924, os⟩ (thr sts14 ⟨270, 0, 271, 90⟩)) = fun os => some (Flow.next, ⟨T15 w.params, 509, {}, ⟨[]⟩, {}, 961, os⟩, cE, ⟨280, 0, 280, 9⟩) := fun w => by kernel_rfl
theorem q14t : ∀ w : World, (fun os => sgT (w.withFollow "special-get-raises" true) 181 ⟨T14 w.params, 503, {}, ⟨[]⟩, {}, 924, os⟩ (thr sts14 ⟨270, 0, 271, 90⟩)) = fun os => some (Flow.next, ⟨T15 w.params, 509, {}, ⟨[]⟩, {}, 961, os⟩, cE, ⟨280, 0, 280, 9⟩) := fun w => by kernel_rfl
theorem q14 : ∀ w : World, (fun os => sgT w 181 ⟨T14 w.params, 503, {}, ⟨[]⟩, {}, 924, os⟩ (thr sts14 ⟨270, 0, 271, 90⟩)) = fun os => some (Flow.next, ⟨T15 w.params, 509, {}, ⟨[]⟩, {}, 961, os⟩, cE, ⟨280, 0, 280, 9⟩) := fun w => by
  have e := World.withFollow_self w "special-get-raises"
  cases hb : w.params.followText "special-get-raises" <;> rw [hb] at e
  · have h := q14f w; rw [e] at h; exact h
  · have h := q14t w; rw [e] at h; exact h
noncomputable def d3v16 (P : Params) : List DictEntry := [E P "PatternText" 1011 (.ref 539), E P "run_of" 1021 (.ref 550), E P "number_of_run" 1031 (.ref 557), E P "until_sign" 1041 (.ref 564)]
noncomputable def n3v16 (P : Params) : List DictEntry := d3v1 P ++ (d3v2 P ++ (d3v3 P ++ (d3v4 P ++ (d3v5 P ++ (d3v6 P ++ (d3v7 P ++ (d3v8 P ++ (d3v9 P ++ (d3v10 P ++ (d3v11 P ++ (d3v12 P ++ (d3v13 P ++ (d3v14 P ++ (d3v15 P ++ d3v16 P))))))))))))))
noncomputable def o3v16 (P : Params) : Obj := Obj.mk (.type "dict") none (.dict ([E P "__name__" 165 (.str (Str.ofString "perlcore.reescape") 930), E P "__doc__" 166 .none, E P "__package__" 167 .none, E P "__loader__" 168 (.builtin "__main__.__loader__#opaque"), E P "__spec__" 169 .none, E P "__annotations__" 170 (.ref 6), E P "__builtins__" 171 (.ref 4), E P "__file__" 173 (.str (Str.ofString "/claim/cut.py") 172), E P "__cached__" 174 .none] ++ n3v16 P : List DictEntry).toArray 62) #[]
noncomputable def d12v16 : List Value := [(.int 281 0), (.int 0 0), (.ref 514), (.int 300 0), (.int 0 0), (.ref 549), (.int 305 0), (.int 0 0), (.ref 556), (.int 310 0), (.int 0 0), (.ref 563)]
noncomputable def n12v16 : List Value := d12v1 ++ (d12v2 ++ (d12v3 ++ (d12v4 ++ (d12v5 ++ (d12v6 ++ (d12v7 ++ (d12v8 ++ (d12v9 ++ (d12v10 ++ (d12v11 ++ (d12v12 ++ (d12v13 ++ (d12v14 ++ (d12v15 ++ d12v16))))))))))))))
noncomputable def o12v16 (P : Params) : Obj := Obj.mk .none none (.fields (n12v16).toArray) #[]
noncomputable def o509 (P : Params) : Obj := Obj.mk (.type "tuple") none (.seq [].toArray 0) #[]
noncomputable def o510 (P : Params) : Obj := Obj.mk (.type "builtin_function_or_method") none (.fields [(.builtin "type.__prepare__"), (.type "type")].toArray) #[]
noncomputable def o511 (P : Params) : Obj := Obj.mk (.type "dict") none (.dict ([E P "__module__" 968 (.str (Str.ofString "perlcore.reescape") 930), E P "__qualname__" 970 (.str (Str.ofString "PatternText") 969), E P "__firstlineno__" 972 (.int 281 971), E P "__init__" 981 (.ref 522), E P "peek" 988 (.ref 529), E P "skips" 996 (.ref 536), E P "__static_attributes__" 1004 (.ref 537)] : List DictEntry).toArray 7) #[]
noncomputable def o512 (P : Params) : Obj := Obj.mk (.type "tuple") none (.seq [].toArray 0) #[]
noncomputable def o513 (P : Params) : Obj := Obj.mk .none none (.fields [(.int 283 0), (.int 4 0), (.ref 521), (.int 292 0), (.int 4 0), (.ref 528), (.int 295 0), (.int 4 0), (.ref 535)].toArray) #[]
noncomputable def o514 (P : Params) : Obj := Obj.mk (.type "code") none (.fields [(.str (Str.ofString "PatternText") 963), (.str (Str.ofString "PatternText") 964), (.str (Str.ofString "/claim/cut.py") 965), (.int 281 0), (.int 0 0), (.int 0 0), (.int 0 0), (.int 0 0), (.ref 512), (.bool false), (.int 181 0), (.ref 513), .none, .none, .none, .none, (.int 966 0), (.int 281 0), (.str (Str.ofString "/claim/cut.py") 967)].toArray) #[]
noncomputable def o515 (P : Params) : Obj := Obj.mk (.type "frame") none .plain [(some (.ref 514)), (some (.ref 3)), (some (.ref 511)), none, (some (.str (Str.ofString "perlcore.reescape") 930)), none, (some (.ref 0))].toArray
noncomputable def o516 (P : Params) : Obj := Obj.mk (.type "tuple") none (.seq [].toArray 0) #[]
noncomputable def o517 (P : Params) : Obj := Obj.mk .none none (.fields [].toArray) #[]
noncomputable def o518 (P : Params) : Obj := Obj.mk (.type "tuple") none (.seq [(.str (Str.ofString "self") 976), (.str (Str.ofString "text") 977), (.str (Str.ofString "total") 978)].toArray 0) #[]
noncomputable def o519 (P : Params) : Obj := Obj.mk (.type "tuple") none (.seq [].toArray 0) #[]
noncomputable def o520 (P : Params) : Obj := Obj.mk .none none (.func (FuncData.mk (Str.ofString "__init__") (Str.ofString "PatternText.__init__") P47 (.stmts B47) Sc47 0 [] .none .none .none .none none .none .none 0)) #[]
noncomputable def o521 (P : Params) : Obj := Obj.mk (.type "code") none (.fields [(.str (Str.ofString "__init__") 973), (.str (Str.ofString "PatternText.__init__") 974), (.str (Str.ofString "/claim/cut.py") 975), (.int 283 0), (.int 3 0), (.int 0 0), (.int 0 0), (.int 3 0), (.ref 516), (.bool true), (.int 181 0), (.ref 517), .none, (.ref 518), (.ref 519), (.ref 520), (.int 979 0), (.int 283 0), (.str (Str.ofString "/claim/cut.py") 980)].toArray) #[]
noncomputable def o522 (P : Params) : Obj := Obj.mk (.type "function") none (.func (FuncData.mk (Str.ofString "__init__") (Str.ofString "PatternText.__init__") P47 (.stmts B47) Sc47 3 [] .none .none .none (.str (Str.ofString "perlcore.reescape") 930) none (.ref 521) .none 0)) #[]
noncomputable def o523 (P : Params) : Obj := Obj.mk (.type "tuple") none (.seq [].toArray 0) #[]
noncomputable def o524 (P : Params) : Obj := Obj.mk .none none (.fields [].toArray) #[]
noncomputable def o525 (P : Params) : Obj := Obj.mk (.type "tuple") none (.seq [(.str (Str.ofString "self") 985)].toArray 0) #[]
noncomputable def o526 (P : Params) : Obj := Obj.mk (.type "tuple") none (.seq [].toArray 0) #[]
noncomputable def o527 (P : Params) : Obj := Obj.mk .none none (.func (FuncData.mk (Str.ofString "peek") (Str.ofString "PatternText.peek") P48 (.stmts B48) Sc48 0 [] .none .none .none .none none .none .none 0)) #[]
noncomputable def o528 (P : Params) : Obj := Obj.mk (.type "code") none (.fields [(.str (Str.ofString "peek") 982), (.str (Str.ofString "PatternText.peek") 983), (.str (Str.ofString "/claim/cut.py") 984), (.int 292 0), (.int 1 0), (.int 0 0), (.int 0 0), (.int 3 0), (.ref 523), (.bool true), (.int 181 0), (.ref 524), .none, (.ref 525), (.ref 526), (.ref 527), (.int 986 0), (.int 292 0), (.str (Str.ofString "/claim/cut.py") 987)].toArray) #[]
noncomputable def o529 (P : Params) : Obj := Obj.mk (.type "function") none (.func (FuncData.mk (Str.ofString "peek") (Str.ofString "PatternText.peek") P48 (.stmts B48) Sc48 3 [] .none .none .none (.str (Str.ofString "perlcore.reescape") 930) none (.ref 528) .none 0)) #[]
noncomputable def o530 (P : Params) : Obj := Obj.mk (.type "tuple") none (.seq [].toArray 0) #[]
noncomputable def o531 (P : Params) : Obj := Obj.mk .none none (.fields [].toArray) #[]
noncomputable def o532 (P : Params) : Obj := Obj.mk (.type "tuple") none (.seq [(.str (Str.ofString "self") 992), (.str (Str.ofString "word") 993)].toArray 0) #[]
noncomputable def o533 (P : Params) : Obj := Obj.mk (.type "tuple") none (.seq [].toArray 0) #[]
noncomputable def o534 (P : Params) : Obj := Obj.mk .none none (.func (FuncData.mk (Str.ofString "skips") (Str.ofString "PatternText.skips") P49 (.stmts B49) Sc49 0 [] .none .none .none .none none .none .none 0)) #[]
noncomputable def o535 (P : Params) : Obj := Obj.mk (.type "code") none (.fields [(.str (Str.ofString "skips") 989), (.str (Str.ofString "PatternText.skips") 990), (.str (Str.ofString "/claim/cut.py") 991), (.int 295 0), (.int 2 0), (.int 0 0), (.int 0 0), (.int 3 0), (.ref 530), (.bool true), (.int 181 0), (.ref 531), .none, (.ref 532), (.ref 533), (.ref 534), (.int 994 0), (.int 295 0), (.str (Str.ofString "/claim/cut.py") 995)].toArray) #[]
noncomputable def o536 (P : Params) : Obj := Obj.mk (.type "function") none (.func (FuncData.mk (Str.ofString "skips") (Str.ofString "PatternText.skips") P49 (.stmts B49) Sc49 3 [] .none .none .none (.str (Str.ofString "perlcore.reescape") 930) none (.ref 535) .none 0)) #[]
noncomputable def o537 (P : Params) : Obj := Obj.mk (.type "tuple") none (.seq [(.str (Str.ofString "at") 997), (.str (Str.ofString "depth") 998), (.str (Str.ofString "groups") 999), (.str (Str.ofString "names") 1000), (.str (Str.ofString "spoken") 1001), (.str (Str.ofString "text") 1002), (.str (Str.ofString "total") 1003)].toArray 0) #[]
noncomputable def o538 (P : Params) : Obj := Obj.mk (.type "dict") none (.dict ([E P "__module__" 968 (.str (Str.ofString "perlcore.reescape") 930), E P "__firstlineno__" 972 (.int 281 971), E P "__init__" 981 (.ref 522), E P "peek" 988 (.ref 529), E P "skips" 996 (.ref 536), E P "__static_attributes__" 1004 (.ref 537), E P "__dict__" 1006 (.ref 540), E P "__weakref__" 1008 (.ref 541), E P "__doc__" 1009 .none] : List DictEntry).toArray 4) #[]
noncomputable def o539 (P : Params) : Obj := Obj.mk (.type "type") none (.cls (ClassData.mk (Str.ofString "PatternText") [(.type "object")] [(.ref 539), (.type "object")] 538 (Str.ofString "PatternText") true [] [] false none false)) [none, none, (some (.str (Str.ofString "PatternText") 961)), (some (.str (Str.ofString "PatternText") 969)), (some (.builtin "object.__new__")), (some (.bool true))].toArray
noncomputable def o540 (P : Params) : Obj := Obj.mk (.type "getset_descriptor") none (.fields [(.str (Str.ofString "__dict__") 1005), (.ref 539), (.builtin "function.__dict__"), (.builtin "function.__dict__#set")].toArray) #[]
noncomputable def o541 (P : Params) : Obj := Obj.mk (.type "getset_descriptor") none (.fields [(.str (Str.ofString "__weakref__") 1007), (.ref 539), (.builtin "ExceptionGroup.__weakref__"), .none].toArray) #[]
noncomputable def o542 (P : Params) : Obj := Obj.mk (.type "super") none (.fields [(.ref 539), (.ref 539), (.ref 539)].toArray) #[]
noncomputable def o543 (P : Params) : Obj := Obj.mk (.type "builtin_function_or_method") none (.fields [(.builtin "object.__init_subclass__"), (.ref 539)].toArray) #[]
noncomputable def o544 (P : Params) : Obj := Obj.mk (.type "tuple") none (.seq [].toArray 0) #[]
noncomputable def o545 (P : Params) : Obj := Obj.mk .none none (.fields [].toArray) #[]
noncomputable def o546 (P : Params) : Obj := Obj.mk (.type "tuple") none (.seq [(.str (Str.ofString "state") 1015), (.str (Str.ofString "signs") 1016), (.str (Str.ofString "most") 1017), (.str (Str.ofString "begun") 1018)].toArray 0) #[]
noncomputable def o547 (P : Params) : Obj := Obj.mk (.type "tuple") none (.seq [].toArray 0) #[]
noncomputable def o548 (P : Params) : Obj := Obj.mk .none none (.func (FuncData.mk (Str.ofString "run_of") (Str.ofString "run_of") P50 (.stmts B50) Sc50 0 [] .none .none .none .none none .none .none 0)) #[]
noncomputable def o549 (P : Params) : Obj := Obj.mk (.type "code") none (.fields [(.str (Str.ofString "run_of") 1012), (.str (Str.ofString "run_of") 1013), (.str (Str.ofString "/claim/cut.py") 1014), (.int 300 0), (.int 3 0), (.int 0 0), (.int 0 0), (.int 3 0), (.ref 544), (.bool true), (.int 181 0), (.ref 545), .none, (.ref 546), (.ref 547), (.ref 548), (.int 1019 0), (.int 300 0), (.str (Str.ofString "/claim/cut.py") 1020)].toArray) #[]
noncomputable def o550 (P : Params) : Obj := Obj.mk (.type "function") none (.func (FuncData.mk (Str.ofString "run_of") (Str.ofString "run_of") P50 (.stmts B50) Sc50 3 [] .none .none .none (.str (Str.ofString "perlcore.reescape") 930) none (.ref 549) .none 0)) #[]
noncomputable def o551 (P : Params) : Obj := Obj.mk (.type "tuple") none (.seq [].toArray 0) #[]
noncomputable def o552 (P : Params) : Obj := Obj.mk .none none (.fields [].toArray) #[]
noncomputable def o553 (P : Params) : Obj := Obj.mk (.type "tuple") none (.seq [(.str (Str.ofString "run") 1025), (.str (Str.ofString "base") 1026), (.str (Str.ofString "found") 1027), (.str (Str.ofString "sign") 1028)].toArray 0) #[]
noncomputable def o554 (P : Params) : Obj := Obj.mk (.type "tuple") none (.seq [].toArray 0) #[]
noncomputable def o555 (P : Params) : Obj := Obj.mk .none none (.func (FuncData.mk (Str.ofString "number_of_run") (Str.ofString "number_of_run") P51 (.stmts B51) Sc51 0 [] .none .none .none .none none .none .none 0)) #[]
noncomputable def o556 (P : Params) : Obj := Obj.mk (.type "code") none (.fields [(.str (Str.ofString "number_of_run") 1022), (.str (Str.ofString "number_of_run") 1023), (.str (Str.ofString "/claim/cut.py") 1024), (.int 305 0), (.int 2 0), (.int 0 0), (.int 0 0), (.int 3 0), (.ref 551), (.bool true), (.int 181 0), (.ref 552), .none, (.ref 553), (.ref 554), (.ref 555), (.int 1029 0), (.int 305 0), (.str (Str.ofString "/claim/cut.py") 1030)].toArray) #[]
noncomputable def o557 (P : Params) : Obj := Obj.mk (.type "function") none (.func (FuncData.mk (Str.ofString "number_of_run") (Str.ofString "number_of_run") P51 (.stmts B51) Sc51 3 [] .none .none .none (.str (Str.ofString "perlcore.reescape") 930) none (.ref 556) .none 0)) #[]
noncomputable def o558 (P : Params) : Obj := Obj.mk (.type "tuple") none (.seq [].toArray 0) #[]
noncomputable def o559 (P : Params) : Obj := Obj.mk .none none (.fields [].toArray) #[]
noncomputable def o560 (P : Params) : Obj := Obj.mk (.type "tuple") none (.seq [(.str (Str.ofString "state") 1035), (.str (Str.ofString "end") 1036), (.str (Str.ofString "close") 1037), (.str (Str.ofString "found") 1038)].toArray 0) #[]
noncomputable def o561 (P : Params) : Obj := Obj.mk (.type "tuple") none (.seq [].toArray 0) #[]
noncomputable def o562 (P : Params) : Obj := Obj.mk .none none (.func (FuncData.mk (Str.ofString "until_sign") (Str.ofString "until_sign") P52 (.stmts B52) Sc52 0 [] .none .none .none .none none .none .none 0)) #[]
noncomputable def o563 (P : Params) : Obj := Obj.mk (.type "code") none (.fields [(.str (Str.ofString "until_sign") 1032), (.str (Str.ofString "until_sign") 1033), (.str (Str.ofString "/claim/cut.py") 1034), (.int 310 0), (.int 2 0), (.int 0 0), (.int 0 0), (.int 3 0), (.ref 558), (.bool true), (.int 181 0), (.ref 559), .none, (.ref 560), (.ref 561), (.ref 562), (.int 1039 0), (.int 310 0), (.str (Str.ofString "/claim/cut.py") 1040)].toArray) #[]
noncomputable def o564 (P : Params) : Obj := Obj.mk (.type "function") none (.func (FuncData.mk (Str.ofString "until_sign") (Str.ofString "until_sign") P52 (.stmts B52) Sc52 3 [] .none .none .none (.str (Str.ofString "perlcore.reescape") 930) none (.ref 563) .none 0)) #[]
noncomputable def T16p0 (P : Params) : BT := (((((((((((((((((((((((((((((((((((((((((T15 P).ins 3 (o3v16 P)).ins 12 (o12v16 P)).ins 509 (o509 P)).ins 510 (o510 P)).ins 511 (o511 P)).ins 512 (o512 P)).ins 513 (o513 P)).ins 514 (o514 P)).ins 515 (o515 P)).ins 516 (o516 P)).ins 517 (o517 P)).ins 518 (o518 P)).ins 519 (o519 P)).ins 520 (o520 P)).ins 521 (o521 P)).ins 522 (o522 P)).ins 523 (o523 P)).ins 524 (o524 P)).ins 525 (o525 P)).ins 526 (o526 P)).ins 527 (o527 P)).ins 528 (o528 P)).ins 529 (o529 P)).ins 530 (o530 P)).ins 531 (o531 P)).ins 532 (o532 P)).ins 533 (o533 P)).ins 534 (o534 P)).ins 535 (o535 P)).ins 536 (o536 P)).ins 537 (o537 P)).ins 538 (o538 P)).ins 539 (o539 P)).ins 540 (o540 P)).ins 541 (o541 P)).ins 542 (o542 P)).ins 543 (o543 P)).ins 544 (o544 P)).ins 545 (o545 P)).ins 546 (o546 P))
noncomputable def T16 (P : Params) : BT := (((((((((((((((((((T16p0 P).ins 547 (o547 P)).ins 548 (o548 P)).ins 549 (o549 P)).ins 550 (o550 P)).ins 551 (o551 P)).ins 552 (o552 P)).ins 553 (o553 P)).ins 554 (o554 P)).ins 555 (o555 P)).ins 556 (o556 P)).ins 557 (o557 P)).ins 558 (o558 P)).ins 559 (o559 P)).ins 560 (o560 P)).ins 561 (o561 P)).ins 562 (o562 P)).ins 563 (o563 P)).ins 564 (o564 P))
@[reducible] noncomputable def sts15 : List Stmt := (bodyE.drop 58).take 4
theorem q15 : ∀ w : World, (fun os => sgT w 389 ⟨T15 w.params, 509, {}, ⟨[]⟩, {}, 961, os⟩ (thr sts15 ⟨280, 0, 280, 9⟩)) = fun os => some (Flow.next, ⟨T16 w.params, 565, {}, ⟨[]⟩, {}, 1042, os⟩, cE, ⟨310, 0, 316, 16⟩) := fun w => by kernel_rfl
noncomputable def d3v17 (P : Params) : List DictEntry := [E P "sign_of_code" 1049 (.ref 571), E P "read_hex_sign" 1055 (.ref 576), E P "read_octal_sign" 1061 (.ref 581), E P "read_named_sign" 1067 (.ref 586), E P "read_plain_escape" 1075 (.ref 593), E P "read_control" 1083 (.ref 600), E P "signs_end" 1092 (.ref 607), E P "posix_end" 1101 (.ref 614), E P "read_posix" 1113 (.ref 621), E P "read_member" 1124 (.ref 628), E P "is_one_sign" 1131 (.ref 635), E P "read_range_end" 1142 (.ref 642), E P "read_set" 1156 (.ref 649)]
noncomputable def n3v17 (P : Params) : List DictEntry := d3v1 P ++ (d3v2 P ++ (d3v3 P ++ (d3v4 P ++ (d3v5 P ++ (d3v6 P ++ (d3v7 P ++ (d3v8 P ++ (d3v9 P ++ (d3v10 P ++ (d3v11 P ++ (d3v12 P ++ (d3v13 P ++ (d3v14 P ++ (d3v15 P ++ (d3v16 P ++ d3v17 P)))))))))))))))
noncomputable def o3v17 (P : Params) : Obj := Obj.mk (.type "dict") none (.dict ([E P "__name__" 165 (.str (Str.ofString "perlcore.reescape") 930), E P "__doc__" 166 .none, E P "__package__" 167 .none, E P "__loader__" 168 (.builtin "__main__.__loader__#opaque"), E P "__spec__" 169 .none, E P "__annotations__" 170 (.ref 6), E P "__builtins__" 171 (.ref 4), E P "__file__" 173 (.str (Str.ofString "/claim/cut.py") 172), E P "__cached__" 174 .none] ++ n3v17 P : List DictEntry).toArray 75) #[]
noncomputable def d12v17 : List Value := [(.int 317 0), (.int 0 0), (.ref 570), (.int 321 0), (.int 0 0), (.ref 575), (.int 329 0), (.int 0 0), (.ref 580), (.int 337 0), (.int 0 0), (.ref 585), (.int 345 0), (.int 0 0), (.ref 592), (.int 361 0), (.int 0 0), (.ref 599), (.int 367 0), (.int 0 0), (.ref 606), (.int 371 0), (.int 0 0), (.ref 613), (.int 376 0), (.int 0 0), (.ref 620), (.int 387 0), (.int 0 0), (.ref 627), (.int 404 0), (.int 0 0), (.ref 634), (.int 406 0), (.int 0 0), (.ref 641), (.int 415 0), (.int 0 0), (.ref 648)]
noncomputable def n12v17 : List Value := d12v1 ++ (d12v2 ++ (d12v3 ++ (d12v4 ++ (d12v5 ++ (d12v6 ++ (d12v7 ++ (d12v8 ++ (d12v9 ++ (d12v10 ++ (d12v11 ++ (d12v12 ++ (d12v13 ++ (d12v14 ++ (d12v15 ++ (d12v16 ++ d12v17)))))))))))))))
noncomputable def o12v17 (P : Params) : Obj := Obj.mk .none none (.fields (n12v17).toArray) #[]
noncomputable def o565 (P : Params) : Obj := Obj.mk (.type "tuple") none (.seq [].toArray 0) #[]
noncomputable def o566 (P : Params) : Obj := Obj.mk .none none (.fields [].toArray) #[]
noncomputable def o567 (P : Params) : Obj := Obj.mk (.type "tuple") none (.seq [(.str (Str.ofString "code") 1045), (.str (Str.ofString "at") 1046)].toArray 0) #[]
noncomputable def o568 (P : Params) : Obj := Obj.mk (.type "tuple") none (.seq [].toArray 0) #[]
noncomputable def o569 (P : Params) : Obj := Obj.mk .none none (.func (FuncData.mk (Str.ofString "sign_of_code") (Str.ofString "sign_of_code") P53 (.stmts B53) Sc53 0 [] .none .none .none .none none .none .none 0)) #[]
noncomputable def o570 (P : Params) : Obj := Obj.mk (.type "code") none (.fields [(.str (Str.ofString "sign_of_code") 1042), (.str (Str.ofString "sign_of_code") 1043), (.str (Str.ofString "/claim/cut.py") 1044), (.int 317 0), (.int 2 0), (.int 0 0), (.int 0 0), (.int 3 0), (.ref 565), (.bool true), (.int 181 0), (.ref 566), .none, (.ref 567), (.ref 568), (.ref 569), (.int 1047 0), (.int 317 0), (.str (Str.ofString "/claim/cut.py") 1048)].toArray) #[]
noncomputable def o571 (P : Params) : Obj := Obj.mk (.type "function") none (.func (FuncData.mk (Str.ofString "sign_of_code") (Str.ofString "sign_of_code") P53 (.stmts B53) Sc53 3 [] .none .none .none (.str (Str.ofString "perlcore.reescape") 930) none (.ref 570) .none 0)) #[]
noncomputable def o572 (P : Params) : Obj := Obj.mk (.type "tuple") none (.seq [].toArray 0) #[]
noncomputable def o573 (P : Params) : Obj := Obj.mk .none none (.fields [].toArray) #[]
noncomputable def o574 (P : Params) : Obj := Obj.mk .none none (.func (FuncData.mk (Str.ofString "read_hex_sign") (Str.ofString "read_hex_sign") P54 (.stmts B54) Sc54 0 [] .none .none .none .none none .none .none 0)) #[]
noncomputable def o575 (P : Params) : Obj := Obj.mk (.type "code") none (.fields [(.str (Str.ofString "read_hex_sign") 1050), (.str (Str.ofString "read_hex_sign") 1051), (.str (Str.ofString "/claim/cut.py") 1052), (.int 321 0), (.int 1 0), (.int 0 0), (.int 0 0), (.int 3 0), (.ref 572), (.bool true), (.int 181 0), (.ref 573), .none, .none, .none, (.ref 574), (.int 1053 0), (.int 321 0), (.str (Str.ofString "/claim/cut.py") 1054)].toArray) #[]
noncomputable def o576 (P : Params) : Obj := Obj.mk (.type "function") none (.func (FuncData.mk (Str.ofString "read_hex_sign") (Str.ofString "read_hex_sign") P54 (.stmts B54) Sc54 3 [] .none .none .none (.str (Str.ofString "perlcore.reescape") 930) none (.ref 575) .none 0)) #[]
noncomputable def o577 (P : Params) : Obj := Obj.mk (.type "tuple") none (.seq [].toArray 0) #[]
noncomputable def o578 (P : Params) : Obj := Obj.mk .none none (.fields [].toArray) #[]
noncomputable def o579 (P : Params) : Obj := Obj.mk .none none (.func (FuncData.mk (Str.ofString "read_octal_sign") (Str.ofString "read_octal_sign") P55 (.stmts B55) Sc55 0 [] .none .none .none .none none .none .none 0)) #[]
noncomputable def o580 (P : Params) : Obj := Obj.mk (.type "code") none (.fields [(.str (Str.ofString "read_octal_sign") 1056), (.str (Str.ofString "read_octal_sign") 1057), (.str (Str.ofString "/claim/cut.py") 1058), (.int 329 0), (.int 1 0), (.int 0 0), (.int 0 0), (.int 3 0), (.ref 577), (.bool true), (.int 181 0), (.ref 578), .none, .none, .none, (.ref 579), (.int 1059 0), (.int 329 0), (.str (Str.ofString "/claim/cut.py") 1060)].toArray) #[]
noncomputable def o581 (P : Params) : Obj := Obj.mk (.type "function") none (.func (FuncData.mk (Str.ofString "read_octal_sign") (Str.ofString "read_octal_sign") P55 (.stmts B55) Sc55 3 [] .none .none .none (.str (Str.ofString "perlcore.reescape") 930) none (.ref 580) .none 0)) #[]
noncomputable def o582 (P : Params) : Obj := Obj.mk (.type "tuple") none (.seq [].toArray 0) #[]
noncomputable def o583 (P : Params) : Obj := Obj.mk .none none (.fields [].toArray) #[]
noncomputable def o584 (P : Params) : Obj := Obj.mk .none none (.func (FuncData.mk (Str.ofString "read_named_sign") (Str.ofString "read_named_sign") P56 (.stmts B56) Sc56 0 [] .none .none .none .none none .none .none 0)) #[]
noncomputable def o585 (P : Params) : Obj := Obj.mk (.type "code") none (.fields [(.str (Str.ofString "read_named_sign") 1062), (.str (Str.ofString "read_named_sign") 1063), (.str (Str.ofString "/claim/cut.py") 1064), (.int 337 0), (.int 1 0), (.int 0 0), (.int 0 0), (.int 3 0), (.ref 582), (.bool true), (.int 181 0), (.ref 583), .none, .none, .none, (.ref 584), (.int 1065 0), (.int 337 0), (.str (Str.ofString "/claim/cut.py") 1066)].toArray) #[]
noncomputable def o586 (P : Params) : Obj := Obj.mk (.type "function") none (.func (FuncData.mk (Str.ofString "read_named_sign") (Str.ofString "read_named_sign") P56 (.stmts B56) Sc56 3 [] .none .none .none (.str (Str.ofString "perlcore.reescape") 930) none (.ref 585) .none 0)) #[]
noncomputable def o587 (P : Params) : Obj := Obj.mk (.type "tuple") none (.seq [].toArray 0) #[]
noncomputable def o588 (P : Params) : Obj := Obj.mk .none none (.fields [].toArray) #[]
noncomputable def o589 (P : Params) : Obj := Obj.mk (.type "tuple") none (.seq [(.str (Str.ofString "state") 1071), (.str (Str.ofString "sign") 1072)].toArray 0) #[]
noncomputable def o590 (P : Params) : Obj := Obj.mk (.type "tuple") none (.seq [].toArray 0) #[]
noncomputable def o591 (P : Params) : Obj := Obj.mk .none none (.func (FuncData.mk (Str.ofString "read_plain_escape") (Str.ofString "read_plain_escape") P57 (.stmts B57) Sc57 0 [] .none .none .none .none none .none .none 0)) #[]
noncomputable def o592 (P : Params) : Obj := Obj.mk (.type "code") none (.fields [(.str (Str.ofString "read_plain_escape") 1068), (.str (Str.ofString "read_plain_escape") 1069), (.str (Str.ofString "/claim/cut.py") 1070), (.int 345 0), (.int 1 0), (.int 0 0), (.int 0 0), (.int 3 0), (.ref 587), (.bool true), (.int 181 0), (.ref 588), .none, (.ref 589), (.ref 590), (.ref 591), (.int 1073 0), (.int 345 0), (.str (Str.ofString "/claim/cut.py") 1074)].toArray) #[]
noncomputable def o593 (P : Params) : Obj := Obj.mk (.type "function") none (.func (FuncData.mk (Str.ofString "read_plain_escape") (Str.ofString "read_plain_escape") P57 (.stmts B57) Sc57 3 [] .none .none .none (.str (Str.ofString "perlcore.reescape") 930) none (.ref 592) .none 0)) #[]
noncomputable def o594 (P : Params) : Obj := Obj.mk (.type "tuple") none (.seq [].toArray 0) #[]
noncomputable def o595 (P : Params) : Obj := Obj.mk .none none (.fields [].toArray) #[]
noncomputable def o596 (P : Params) : Obj := Obj.mk (.type "tuple") none (.seq [(.str (Str.ofString "state") 1079), (.str (Str.ofString "sign") 1080)].toArray 0) #[]
noncomputable def o597 (P : Params) : Obj := Obj.mk (.type "tuple") none (.seq [].toArray 0) #[]
noncomputable def o598 (P : Params) : Obj := Obj.mk .none none (.func (FuncData.mk (Str.ofString "read_control") (Str.ofString "read_control") P58 (.stmts B58) Sc58 0 [] .none .none .none .none none .none .none 0)) #[]
noncomputable def o599 (P : Params) : Obj := Obj.mk (.type "code") none (.fields [(.str (Str.ofString "read_control") 1076), (.str (Str.ofString "read_control") 1077), (.str (Str.ofString "/claim/cut.py") 1078), (.int 361 0), (.int 1 0), (.int 0 0), (.int 0 0), (.int 3 0), (.ref 594), (.bool true), (.int 181 0), (.ref 595), .none, (.ref 596), (.ref 597), (.ref 598), (.int 1081 0), (.int 361 0), (.str (Str.ofString "/claim/cut.py") 1082)].toArray) #[]
noncomputable def o600 (P : Params) : Obj := Obj.mk (.type "function") none (.func (FuncData.mk (Str.ofString "read_control") (Str.ofString "read_control") P58 (.stmts B58) Sc58 3 [] .none .none .none (.str (Str.ofString "perlcore.reescape") 930) none (.ref 599) .none 0)) #[]
noncomputable def o601 (P : Params) : Obj := Obj.mk (.type "tuple") none (.seq [].toArray 0) #[]
noncomputable def o602 (P : Params) : Obj := Obj.mk .none none (.fields [].toArray) #[]
noncomputable def o603 (P : Params) : Obj := Obj.mk (.type "tuple") none (.seq [(.str (Str.ofString "text") 1087), (.str (Str.ofString "at") 1088), (.str (Str.ofString "signs") 1089)].toArray 0) #[]
noncomputable def o604 (P : Params) : Obj := Obj.mk (.type "tuple") none (.seq [].toArray 0) #[]
noncomputable def o605 (P : Params) : Obj := Obj.mk .none none (.func (FuncData.mk (Str.ofString "signs_end") (Str.ofString "signs_end") P59 (.stmts B59) Sc59 0 [] .none .none .none .none none .none .none 0)) #[]
noncomputable def o606 (P : Params) : Obj := Obj.mk (.type "code") none (.fields [(.str (Str.ofString "signs_end") 1084), (.str (Str.ofString "signs_end") 1085), (.str (Str.ofString "/claim/cut.py") 1086), (.int 367 0), (.int 3 0), (.int 0 0), (.int 0 0), (.int 3 0), (.ref 601), (.bool true), (.int 181 0), (.ref 602), .none, (.ref 603), (.ref 604), (.ref 605), (.int 1090 0), (.int 367 0), (.str (Str.ofString "/claim/cut.py") 1091)].toArray) #[]
noncomputable def o607 (P : Params) : Obj := Obj.mk (.type "function") none (.func (FuncData.mk (Str.ofString "signs_end") (Str.ofString "signs_end") P59 (.stmts B59) Sc59 3 [] .none .none .none (.str (Str.ofString "perlcore.reescape") 930) none (.ref 606) .none 0)) #[]
noncomputable def o608 (P : Params) : Obj := Obj.mk (.type "tuple") none (.seq [].toArray 0) #[]
noncomputable def o609 (P : Params) : Obj := Obj.mk .none none (.fields [].toArray) #[]
noncomputable def o610 (P : Params) : Obj := Obj.mk (.type "tuple") none (.seq [(.str (Str.ofString "text") 1096), (.str (Str.ofString "at") 1097), (.str (Str.ofString "close") 1098)].toArray 0) #[]
noncomputable def o611 (P : Params) : Obj := Obj.mk (.type "tuple") none (.seq [].toArray 0) #[]
noncomputable def o612 (P : Params) : Obj := Obj.mk .none none (.func (FuncData.mk (Str.ofString "posix_end") (Str.ofString "posix_end") P60 (.stmts B60) Sc60 0 [] .none .none .none .none none .none .none 0)) #[]
noncomputable def o613 (P : Params) : Obj := Obj.mk (.type "code") none (.fields [(.str (Str.ofString "posix_end") 1093), (.str (Str.ofString "posix_end") 1094), (.str (Str.ofString "/claim/cut.py") 1095), (.int 371 0), (.int 2 0), (.int 0 0), (.int 0 0), (.int 3 0), (.ref 608), (.bool true), (.int 181 0), (.ref 609), .none, (.ref 610), (.ref 611), (.ref 612), (.int 1099 0), (.int 371 0), (.str (Str.ofString "/claim/cut.py") 1100)].toArray) #[]
noncomputable def o614 (P : Params) : Obj := Obj.mk (.type "function") none (.func (FuncData.mk (Str.ofString "posix_end") (Str.ofString "posix_end") P60 (.stmts B60) Sc60 3 [] .none .none .none (.str (Str.ofString "perlcore.reescape") 930) none (.ref 613) .none 0)) #[]
noncomputable def o615 (P : Params) : Obj := Obj.mk (.type "tuple") none (.seq [].toArray 0) #[]
noncomputable def o616 (P : Params) : Obj := Obj.mk .none none (.fields [].toArray) #[]
noncomputable def o617 (P : Params) : Obj := Obj.mk (.type "tuple") none (.seq [(.str (Str.ofString "state") 1105), (.str (Str.ofString "is_folded") 1106), (.str (Str.ofString "close") 1107), (.str (Str.ofString "name") 1108), (.str (Str.ofString "bare") 1109), (.str (Str.ofString "items") 1110)].toArray 0) #[]
noncomputable def o618 (P : Params) : Obj := Obj.mk (.type "tuple") none (.seq [].toArray 0) #[]
noncomputable def o619 (P : Params) : Obj := Obj.mk .none none (.func (FuncData.mk (Str.ofString "read_posix") (Str.ofString "read_posix") P61 (.stmts B61) Sc61 0 [] .none .none .none .none none .none .none 0)) #[]
noncomputable def o620 (P : Params) : Obj := Obj.mk (.type "code") none (.fields [(.str (Str.ofString "read_posix") 1102), (.str (Str.ofString "read_posix") 1103), (.str (Str.ofString "/claim/cut.py") 1104), (.int 376 0), (.int 2 0), (.int 0 0), (.int 0 0), (.int 3 0), (.ref 615), (.bool true), (.int 181 0), (.ref 616), .none, (.ref 617), (.ref 618), (.ref 619), (.int 1111 0), (.int 376 0), (.str (Str.ofString "/claim/cut.py") 1112)].toArray) #[]
noncomputable def o621 (P : Params) : Obj := Obj.mk (.type "function") none (.func (FuncData.mk (Str.ofString "read_posix") (Str.ofString "read_posix") P61 (.stmts B61) Sc61 3 [] .none .none .none (.str (Str.ofString "perlcore.reescape") 930) none (.ref 620) .none 0)) #[]
noncomputable def o622 (P : Params) : Obj := Obj.mk (.type "tuple") none (.seq [].toArray 0) #[]
noncomputable def o623 (P : Params) : Obj := Obj.mk .none none (.fields [].toArray) #[]
noncomputable def o624 (P : Params) : Obj := Obj.mk (.type "tuple") none (.seq [(.str (Str.ofString "state") 1117), (.str (Str.ofString "is_folded") 1118), (.str (Str.ofString "found") 1119), (.str (Str.ofString "sign") 1120), (.str (Str.ofString "letter") 1121)].toArray 0) #[]
noncomputable def o625 (P : Params) : Obj := Obj.mk (.type "tuple") none (.seq [].toArray 0) #[]
noncomputable def o626 (P : Params) : Obj := Obj.mk .none none (.func (FuncData.mk (Str.ofString "read_member") (Str.ofString "read_member") P62 (.stmts B62) Sc62 0 [] .none .none .none .none none .none .none 0)) #[]
noncomputable def o627 (P : Params) : Obj := Obj.mk (.type "code") none (.fields [(.str (Str.ofString "read_member") 1114), (.str (Str.ofString "read_member") 1115), (.str (Str.ofString "/claim/cut.py") 1116), (.int 387 0), (.int 2 0), (.int 0 0), (.int 0 0), (.int 3 0), (.ref 622), (.bool true), (.int 181 0), (.ref 623), .none, (.ref 624), (.ref 625), (.ref 626), (.int 1122 0), (.int 387 0), (.str (Str.ofString "/claim/cut.py") 1123)].toArray) #[]
noncomputable def o628 (P : Params) : Obj := Obj.mk (.type "function") none (.func (FuncData.mk (Str.ofString "read_member") (Str.ofString "read_member") P62 (.stmts B62) Sc62 3 [] .none .none .none (.str (Str.ofString "perlcore.reescape") 930) none (.ref 627) .none 0)) #[]
noncomputable def o629 (P : Params) : Obj := Obj.mk (.type "tuple") none (.seq [].toArray 0) #[]
noncomputable def o630 (P : Params) : Obj := Obj.mk .none none (.fields [].toArray) #[]
noncomputable def o631 (P : Params) : Obj := Obj.mk (.type "tuple") none (.seq [(.str (Str.ofString "items") 1128)].toArray 0) #[]
noncomputable def o632 (P : Params) : Obj := Obj.mk (.type "tuple") none (.seq [].toArray 0) #[]
noncomputable def o633 (P : Params) : Obj := Obj.mk .none none (.func (FuncData.mk (Str.ofString "is_one_sign") (Str.ofString "is_one_sign") P63 (.stmts B63) Sc63 0 [] .none .none .none .none none .none .none 0)) #[]
noncomputable def o634 (P : Params) : Obj := Obj.mk (.type "code") none (.fields [(.str (Str.ofString "is_one_sign") 1125), (.str (Str.ofString "is_one_sign") 1126), (.str (Str.ofString "/claim/cut.py") 1127), (.int 404 0), (.int 1 0), (.int 0 0), (.int 0 0), (.int 3 0), (.ref 629), (.bool true), (.int 181 0), (.ref 630), .none, (.ref 631), (.ref 632), (.ref 633), (.int 1129 0), (.int 404 0), (.str (Str.ofString "/claim/cut.py") 1130)].toArray) #[]
noncomputable def o635 (P : Params) : Obj := Obj.mk (.type "function") none (.func (FuncData.mk (Str.ofString "is_one_sign") (Str.ofString "is_one_sign") P63 (.stmts B63) Sc63 3 [] .none .none .none (.str (Str.ofString "perlcore.reescape") 930) none (.ref 634) .none 0)) #[]
noncomputable def o636 (P : Params) : Obj := Obj.mk (.type "tuple") none (.seq [].toArray 0) #[]
noncomputable def o637 (P : Params) : Obj := Obj.mk .none none (.fields [].toArray) #[]
noncomputable def o638 (P : Params) : Obj := Obj.mk (.type "tuple") none (.seq [(.str (Str.ofString "state") 1135), (.str (Str.ofString "first") 1136), (.str (Str.ofString "is_folded") 1137), (.str (Str.ofString "at") 1138), (.str (Str.ofString "second") 1139)].toArray 0) #[]
noncomputable def o639 (P : Params) : Obj := Obj.mk (.type "tuple") none (.seq [].toArray 0) #[]
noncomputable def o640 (P : Params) : Obj := Obj.mk .none none (.func (FuncData.mk (Str.ofString "read_range_end") (Str.ofString "read_range_end") P64 (.stmts B64) Sc64 0 [] .none .none .none .none none .none .none 0)) #[]
noncomputable def o641 (P : Params) : Obj := Obj.mk (.type "code") none (.fields [(.str (Str.ofString "read_range_end") 1132), (.str (Str.ofString "read_range_end") 1133), (.str (Str.ofString "/claim/cut.py") 1134), (.int 406 0), (.int 3 0), (.int 0 0), (.int 0 0), (.int 3 0), (.ref 636), (.bool true), (.int 181 0), (.ref 637), .none, (.ref 638), (.ref 639), (.ref 640), (.int 1140 0), (.int 406 0), (.str (Str.ofString "/claim/cut.py") 1141)].toArray) #[]
noncomputable def o642 (P : Params) : Obj := Obj.mk (.type "function") none (.func (FuncData.mk (Str.ofString "read_range_end") (Str.ofString "read_range_end") P64 (.stmts B64) Sc64 3 [] .none .none .none (.str (Str.ofString "perlcore.reescape") 930) none (.ref 641) .none 0)) #[]
noncomputable def o643 (P : Params) : Obj := Obj.mk (.type "tuple") none (.seq [].toArray 0) #[]
noncomputable def o644 (P : Params) : Obj := Obj.mk .none none (.fields [].toArray) #[]
noncomputable def o645 (P : Params) : Obj := Obj.mk (.type "tuple") none (.seq [(.str (Str.ofString "state") 1146), (.str (Str.ofString "is_folded") 1147), (.str (Str.ofString "begun") 1148), (.str (Str.ofString "is_negated") 1149), (.str (Str.ofString "items") 1150), (.str (Str.ofString "is_first") 1151), (.str (Str.ofString "found") 1152), (.str (Str.ofString "behind") 1153)].toArray 0) #[]
noncomputable def o646 (P : Params) : Obj := Obj.mk (.type "tuple") none (.seq [].toArray 0) #[]
noncomputable def o647 (P : Params) : Obj := Obj.mk .none none (.func (FuncData.mk (Str.ofString "read_set") (Str.ofString "read_set") P65 (.stmts B65) Sc65 0 [] .none .none .none .none none .none .none 0)) #[]
noncomputable def o648 (P : Params) : Obj := Obj.mk (.type "code") none (.fields [(.str (Str.ofString "read_set") 1143), (.str (Str.ofString "read_set") 1144), (.str (Str.ofString "/claim/cut.py") 1145), (.int 415 0), (.int 2 0), (.int 0 0), (.int 0 0), (.int 3 0), (.ref 643), (.bool true), (.int 181 0), (.ref 644), .none, (.ref 645), (.ref 646), (.ref 647), (.int 1154 0), (.int 415 0), (.str (Str.ofString "/claim/cut.py") 1155)].toArray) #[]
noncomputable def o649 (P : Params) : Obj := Obj.mk (.type "function") none (.func (FuncData.mk (Str.ofString "read_set") (Str.ofString "read_set") P65 (.stmts B65) Sc65 3 [] .none .none .none (.str (Str.ofString "perlcore.reescape") 930) none (.ref 648) .none 0)) #[]
noncomputable def T17p0 (P : Params) : BT := (((((((((((((((((((((((((((((((((((((((((T16 P).ins 3 (o3v17 P)).ins 12 (o12v17 P)).ins 565 (o565 P)).ins 566 (o566 P)).ins 567 (o567 P)).ins 568 (o568 P)).ins 569 (o569 P)).ins 570 (o570 P)).ins 571 (o571 P)).ins 572 (o572 P)).ins 573 (o573 P)).ins 574 (o574 P)).ins 575 (o575 P)).ins 576 (o576 P)).ins 577 (o577 P)).ins 578 (o578 P)).ins 579 (o579 P)).ins 580 (o580 P)).ins 581 (o581 P)).ins 582 (o582 P)).ins 583 (o583 P)).ins 584 (o584 P)).ins 585 (o585 P)).ins 586 (o586 P)).ins 587 (o587 P)).ins 588 (o588 P)).ins 589 (o589 P)).ins 590 (o590 P)).ins 591 (o591 P)).ins 592 (o592 P)).ins 593 (o593 P)).ins 594 (o594 P)).ins 595 (o595 P)).ins 596 (o596 P)).ins 597 (o597 P)).ins 598 (o598 P)).ins 599 (o599 P)).ins 600 (o600 P)).ins 601 (o601 P)).ins 602 (o602 P))
noncomputable def T17p1 (P : Params) : BT := (((((((((((((((((((((((((((((((((((((((((T17p0 P).ins 603 (o603 P)).ins 604 (o604 P)).ins 605 (o605 P)).ins 606 (o606 P)).ins 607 (o607 P)).ins 608 (o608 P)).ins 609 (o609 P)).ins 610 (o610 P)).ins 611 (o611 P)).ins 612 (o612 P)).ins 613 (o613 P)).ins 614 (o614 P)).ins 615 (o615 P)).ins 616 (o616 P)).ins 617 (o617 P)).ins 618 (o618 P)).ins 619 (o619 P)).ins 620 (o620 P)).ins 621 (o621 P)).ins 622 (o622 P)).ins 623 (o623 P)).ins 624 (o624 P)).ins 625 (o625 P)).ins 626 (o626 P)).ins 627 (o627 P)).ins 628 (o628 P)).ins 629 (o629 P)).ins 630 (o630 P)).ins 631 (o631 P)).ins 632 (o632 P)).ins 633 (o633 P)).ins 634 (o634 P)).ins 635 (o635 P)).ins 636 (o636 P)).ins 637 (o637 P)).ins 638 (o638 P)).ins 639 (o639 P)).ins 640 (o640 P)).ins 641 (o641 P)).ins 642 (o642 P))
noncomputable def T17 (P : Params) : BT := ((((((((T17p1 P).ins 643 (o643 P)).ins 644 (o644 P)).ins 645 (o645 P)).ins 646 (o646 P)).ins 647 (o647 P)).ins 648 (o648 P)).ins 649 (o649 P))
@[reducible] noncomputable def sts16 : List Stmt := (bodyE.drop 62).take 13
theorem q16 : ∀ w : World, (fun os => sgT w 396 ⟨T16 w.params, 565, {}, ⟨[]⟩, {}, 1042, os⟩ (thr sts16 ⟨310, 0, 316, 16⟩)) = fun os => some (Flow.next, ⟨T17 w.params, 650, {}, ⟨[]⟩, {}, 1157, os⟩, cE, ⟨415, 0, 431, 48⟩) := fun w => by kernel_rfl
noncomputable def d3v18 (P : Params) : List DictEntry := [E P "FIGURES" 1160 (.str (Str.ofString "0123456789") 1159), E P "MOST_COUNT" 1162 (.int 32766 1161), E P "COUNT_SIGNS" 1177 (.ref 650), E P "count_groups" 1187 (.ref 660), E P "behind_set" 1196 (.ref 667), E P "behind_posix" 1205 (.ref 674), E P "opens_capture" 1212 (.ref 681), E P "is_name_text" 1218 (.ref 686), E P "braces_count" 1229 (.ref 693), E P "take_count" 1241 (.ref 700), E P "read_name" 1251 (.ref 707), E P "speak_of" 1260 (.ref 714)]
noncomputable def n3v18 (P : Params) : List DictEntry := d3v1 P ++ (d3v2 P ++ (d3v3 P ++ (d3v4 P ++ (d3v5 P ++ (d3v6 P ++ (d3v7 P ++ (d3v8 P ++ (d3v9 P ++ (d3v10 P ++ (d3v11 P ++ (d3v12 P ++ (d3v13 P ++ (d3v14 P ++ (d3v15 P ++ (d3v16 P ++ (d3v17 P ++ d3v18 P))))))))))))))))
noncomputable def o3v18 (P : Params) : Obj := Obj.mk (.type "dict") none (.dict ([E P "__name__" 165 (.str (Str.ofString "perlcore.repieces") 1157), E P "__doc__" 166 .none, E P "__package__" 167 .none, E P "__loader__" 168 (.builtin "__main__.__loader__#opaque"), E P "__spec__" 169 .none, E P "__annotations__" 170 (.ref 6), E P "__builtins__" 171 (.ref 4), E P "__file__" 173 (.str (Str.ofString "/claim/cut.py") 172), E P "__cached__" 174 .none] ++ n3v18 P : List DictEntry).toArray 87) #[]
noncomputable def d12v18 : List Value := [(.int 436 0), (.int 0 0), (.ref 659), (.int 451 0), (.int 0 0), (.ref 666), (.int 464 0), (.int 0 0), (.ref 673), (.int 467 0), (.int 0 0), (.ref 680), (.int 471 0), (.int 0 0), (.ref 685), (.int 473 0), (.int 0 0), (.ref 692), (.int 484 0), (.int 0 0), (.ref 699), (.int 499 0), (.int 0 0), (.ref 706), (.int 504 0), (.int 0 0), (.ref 713)]
noncomputable def n12v18 : List Value := d12v1 ++ (d12v2 ++ (d12v3 ++ (d12v4 ++ (d12v5 ++ (d12v6 ++ (d12v7 ++ (d12v8 ++ (d12v9 ++ (d12v10 ++ (d12v11 ++ (d12v12 ++ (d12v13 ++ (d12v14 ++ (d12v15 ++ (d12v16 ++ (d12v17 ++ d12v18))))))))))))))))
noncomputable def o12v18 (P : Params) : Obj := Obj.mk .none none (.fields (n12v18).toArray) #[]
noncomputable def o650 (P : Params) : Obj := Obj.mk (.type "dict") none (.dict ([E P "*" 1163 (.ref 651), E P "+" 1167 (.ref 652), E P "?" 1171 (.ref 653)] : List DictEntry).toArray 3) #[]
noncomputable def o651 (P : Params) : Obj := Obj.mk (.type "tuple") none (.seq [(.int 0 1164), (.int (-1) 1166)].toArray 0) #[]
noncomputable def o652 (P : Params) : Obj := Obj.mk (.type "tuple") none (.seq [(.int 1 1168), (.int (-1) 1170)].toArray 0) #[]
noncomputable def o653 (P : Params) : Obj := Obj.mk (.type "tuple") none (.seq [(.int 0 1172), (.int 1 1173)].toArray 0) #[]
noncomputable def o654 (P : Params) : Obj := Obj.mk (.type "tuple") none (.seq [].toArray 0) #[]
noncomputable def o655 (P : Params) : Obj := Obj.mk .none none (.fields [].toArray) #[]
noncomputable def o656 (P : Params) : Obj := Obj.mk (.type "tuple") none (.seq [(.str (Str.ofString "text") 1181), (.str (Str.ofString "found") 1182), (.str (Str.ofString "at") 1183), (.str (Str.ofString "close") 1184)].toArray 0) #[]
noncomputable def o657 (P : Params) : Obj := Obj.mk (.type "tuple") none (.seq [].toArray 0) #[]
noncomputable def o658 (P : Params) : Obj := Obj.mk .none none (.func (FuncData.mk (Str.ofString "count_groups") (Str.ofString "count_groups") P66 (.stmts B66) Sc66 0 [] .none .none .none .none none .none .none 0)) #[]
noncomputable def o659 (P : Params) : Obj := Obj.mk (.type "code") none (.fields [(.str (Str.ofString "count_groups") 1178), (.str (Str.ofString "count_groups") 1179), (.str (Str.ofString "/claim/cut.py") 1180), (.int 436 0), (.int 1 0), (.int 0 0), (.int 0 0), (.int 3 0), (.ref 654), (.bool true), (.int 181 0), (.ref 655), .none, (.ref 656), (.ref 657), (.ref 658), (.int 1185 0), (.int 436 0), (.str (Str.ofString "/claim/cut.py") 1186)].toArray) #[]
noncomputable def o660 (P : Params) : Obj := Obj.mk (.type "function") none (.func (FuncData.mk (Str.ofString "count_groups") (Str.ofString "count_groups") P66 (.stmts B66) Sc66 3 [] .none .none .none (.str (Str.ofString "perlcore.repieces") 1157) none (.ref 659) .none 0)) #[]
noncomputable def o661 (P : Params) : Obj := Obj.mk (.type "tuple") none (.seq [].toArray 0) #[]
noncomputable def o662 (P : Params) : Obj := Obj.mk .none none (.fields [].toArray) #[]
noncomputable def o663 (P : Params) : Obj := Obj.mk (.type "tuple") none (.seq [(.str (Str.ofString "text") 1191), (.str (Str.ofString "at") 1192), (.str (Str.ofString "behind") 1193)].toArray 0) #[]
noncomputable def o664 (P : Params) : Obj := Obj.mk (.type "tuple") none (.seq [].toArray 0) #[]
noncomputable def o665 (P : Params) : Obj := Obj.mk .none none (.func (FuncData.mk (Str.ofString "behind_set") (Str.ofString "behind_set") P67 (.stmts B67) Sc67 0 [] .none .none .none .none none .none .none 0)) #[]
noncomputable def o666 (P : Params) : Obj := Obj.mk (.type "code") none (.fields [(.str (Str.ofString "behind_set") 1188), (.str (Str.ofString "behind_set") 1189), (.str (Str.ofString "/claim/cut.py") 1190), (.int 451 0), (.int 2 0), (.int 0 0), (.int 0 0), (.int 3 0), (.ref 661), (.bool true), (.int 181 0), (.ref 662), .none, (.ref 663), (.ref 664), (.ref 665), (.int 1194 0), (.int 451 0), (.str (Str.ofString "/claim/cut.py") 1195)].toArray) #[]
noncomputable def o667 (P : Params) : Obj := Obj.mk (.type "function") none (.func (FuncData.mk (Str.ofString "behind_set") (Str.ofString "behind_set") P67 (.stmts B67) Sc67 3 [] .none .none .none (.str (Str.ofString "perlcore.repieces") 1157) none (.ref 666) .none 0)) #[]
noncomputable def o668 (P : Params) : Obj := Obj.mk (.type "tuple") none (.seq [].toArray 0) #[]
noncomputable def o669 (P : Params) : Obj := Obj.mk .none none (.fields [].toArray) #[]
noncomputable def o670 (P : Params) : Obj := Obj.mk (.type "tuple") none (.seq [(.str (Str.ofString "text") 1200), (.str (Str.ofString "at") 1201), (.str (Str.ofString "close") 1202)].toArray 0) #[]
noncomputable def o671 (P : Params) : Obj := Obj.mk (.type "tuple") none (.seq [].toArray 0) #[]
noncomputable def o672 (P : Params) : Obj := Obj.mk .none none (.func (FuncData.mk (Str.ofString "behind_posix") (Str.ofString "behind_posix") P68 (.stmts B68) Sc68 0 [] .none .none .none .none none .none .none 0)) #[]
noncomputable def o673 (P : Params) : Obj := Obj.mk (.type "code") none (.fields [(.str (Str.ofString "behind_posix") 1197), (.str (Str.ofString "behind_posix") 1198), (.str (Str.ofString "/claim/cut.py") 1199), (.int 464 0), (.int 2 0), (.int 0 0), (.int 0 0), (.int 3 0), (.ref 668), (.bool true), (.int 181 0), (.ref 669), .none, (.ref 670), (.ref 671), (.ref 672), (.int 1203 0), (.int 464 0), (.str (Str.ofString "/claim/cut.py") 1204)].toArray) #[]
noncomputable def o674 (P : Params) : Obj := Obj.mk (.type "function") none (.func (FuncData.mk (Str.ofString "behind_posix") (Str.ofString "behind_posix") P68 (.stmts B68) Sc68 3 [] .none .none .none (.str (Str.ofString "perlcore.repieces") 1157) none (.ref 673) .none 0)) #[]
noncomputable def o675 (P : Params) : Obj := Obj.mk (.type "tuple") none (.seq [].toArray 0) #[]
noncomputable def o676 (P : Params) : Obj := Obj.mk .none none (.fields [].toArray) #[]
noncomputable def o677 (P : Params) : Obj := Obj.mk (.type "tuple") none (.seq [(.str (Str.ofString "signs") 1209)].toArray 0) #[]
noncomputable def o678 (P : Params) : Obj := Obj.mk (.type "tuple") none (.seq [].toArray 0) #[]
noncomputable def o679 (P : Params) : Obj := Obj.mk .none none (.func (FuncData.mk (Str.ofString "opens_capture") (Str.ofString "opens_capture") P69 (.stmts B69) Sc69 0 [] .none .none .none .none none .none .none 0)) #[]
noncomputable def o680 (P : Params) : Obj := Obj.mk (.type "code") none (.fields [(.str (Str.ofString "opens_capture") 1206), (.str (Str.ofString "opens_capture") 1207), (.str (Str.ofString "/claim/cut.py") 1208), (.int 467 0), (.int 1 0), (.int 0 0), (.int 0 0), (.int 3 0), (.ref 675), (.bool true), (.int 181 0), (.ref 676), .none, (.ref 677), (.ref 678), (.ref 679), (.int 1210 0), (.int 467 0), (.str (Str.ofString "/claim/cut.py") 1211)].toArray) #[]
noncomputable def o681 (P : Params) : Obj := Obj.mk (.type "function") none (.func (FuncData.mk (Str.ofString "opens_capture") (Str.ofString "opens_capture") P69 (.stmts B69) Sc69 3 [] .none .none .none (.str (Str.ofString "perlcore.repieces") 1157) none (.ref 680) .none 0)) #[]
noncomputable def o682 (P : Params) : Obj := Obj.mk (.type "tuple") none (.seq [].toArray 0) #[]
noncomputable def o683 (P : Params) : Obj := Obj.mk .none none (.fields [].toArray) #[]
noncomputable def o684 (P : Params) : Obj := Obj.mk .none none (.func (FuncData.mk (Str.ofString "is_name_text") (Str.ofString "is_name_text") P70 (.stmts B70) Sc70 0 [] .none .none .none .none none .none .none 0)) #[]
noncomputable def o685 (P : Params) : Obj := Obj.mk (.type "code") none (.fields [(.str (Str.ofString "is_name_text") 1213), (.str (Str.ofString "is_name_text") 1214), (.str (Str.ofString "/claim/cut.py") 1215), (.int 471 0), (.int 1 0), (.int 0 0), (.int 0 0), (.int 3 0), (.ref 682), (.bool true), (.int 181 0), (.ref 683), .none, .none, .none, (.ref 684), (.int 1216 0), (.int 471 0), (.str (Str.ofString "/claim/cut.py") 1217)].toArray) #[]
noncomputable def o686 (P : Params) : Obj := Obj.mk (.type "function") none (.func (FuncData.mk (Str.ofString "is_name_text") (Str.ofString "is_name_text") P70 (.stmts B70) Sc70 3 [] .none .none .none (.str (Str.ofString "perlcore.repieces") 1157) none (.ref 685) .none 0)) #[]
noncomputable def o687 (P : Params) : Obj := Obj.mk (.type "tuple") none (.seq [].toArray 0) #[]
noncomputable def o688 (P : Params) : Obj := Obj.mk .none none (.fields [].toArray) #[]
noncomputable def o689 (P : Params) : Obj := Obj.mk (.type "tuple") none (.seq [(.str (Str.ofString "text") 1222), (.str (Str.ofString "at") 1223), (.str (Str.ofString "comma") 1224), (.str (Str.ofString "least") 1225), (.str (Str.ofString "close") 1226)].toArray 0) #[]
noncomputable def o690 (P : Params) : Obj := Obj.mk (.type "tuple") none (.seq [].toArray 0) #[]
noncomputable def o691 (P : Params) : Obj := Obj.mk .none none (.func (FuncData.mk (Str.ofString "braces_count") (Str.ofString "braces_count") P71 (.stmts B71) Sc71 0 [] .none .none .none .none none .none .none 0)) #[]
noncomputable def o692 (P : Params) : Obj := Obj.mk (.type "code") none (.fields [(.str (Str.ofString "braces_count") 1219), (.str (Str.ofString "braces_count") 1220), (.str (Str.ofString "/claim/cut.py") 1221), (.int 473 0), (.int 2 0), (.int 0 0), (.int 0 0), (.int 3 0), (.ref 687), (.bool true), (.int 181 0), (.ref 688), .none, (.ref 689), (.ref 690), (.ref 691), (.int 1227 0), (.int 473 0), (.str (Str.ofString "/claim/cut.py") 1228)].toArray) #[]
noncomputable def o693 (P : Params) : Obj := Obj.mk (.type "function") none (.func (FuncData.mk (Str.ofString "braces_count") (Str.ofString "braces_count") P71 (.stmts B71) Sc71 3 [] .none .none .none (.str (Str.ofString "perlcore.repieces") 1157) none (.ref 692) .none 0)) #[]
noncomputable def o694 (P : Params) : Obj := Obj.mk (.type "tuple") none (.seq [].toArray 0) #[]
noncomputable def o695 (P : Params) : Obj := Obj.mk .none none (.fields [].toArray) #[]
noncomputable def o696 (P : Params) : Obj := Obj.mk (.type "tuple") none (.seq [(.str (Str.ofString "state") 1233), (.str (Str.ofString "sign") 1234), (.str (Str.ofString "found") 1235), (.str (Str.ofString "least") 1236), (.str (Str.ofString "most") 1237), (.str (Str.ofString "behind") 1238)].toArray 0) #[]
noncomputable def o697 (P : Params) : Obj := Obj.mk (.type "tuple") none (.seq [].toArray 0) #[]
noncomputable def o698 (P : Params) : Obj := Obj.mk .none none (.func (FuncData.mk (Str.ofString "take_count") (Str.ofString "take_count") P72 (.stmts B72) Sc72 0 [] .none .none .none .none none .none .none 0)) #[]
noncomputable def o699 (P : Params) : Obj := Obj.mk (.type "code") none (.fields [(.str (Str.ofString "take_count") 1230), (.str (Str.ofString "take_count") 1231), (.str (Str.ofString "/claim/cut.py") 1232), (.int 484 0), (.int 1 0), (.int 0 0), (.int 0 0), (.int 3 0), (.ref 694), (.bool true), (.int 181 0), (.ref 695), .none, (.ref 696), (.ref 697), (.ref 698), (.int 1239 0), (.int 484 0), (.str (Str.ofString "/claim/cut.py") 1240)].toArray) #[]
noncomputable def o700 (P : Params) : Obj := Obj.mk (.type "function") none (.func (FuncData.mk (Str.ofString "take_count") (Str.ofString "take_count") P72 (.stmts B72) Sc72 3 [] .none .none .none (.str (Str.ofString "perlcore.repieces") 1157) none (.ref 699) .none 0)) #[]
noncomputable def o701 (P : Params) : Obj := Obj.mk (.type "tuple") none (.seq [].toArray 0) #[]
noncomputable def o702 (P : Params) : Obj := Obj.mk .none none (.fields [].toArray) #[]
noncomputable def o703 (P : Params) : Obj := Obj.mk (.type "tuple") none (.seq [(.str (Str.ofString "state") 1245), (.str (Str.ofString "close") 1246), (.str (Str.ofString "at") 1247), (.str (Str.ofString "name") 1248)].toArray 0) #[]
noncomputable def o704 (P : Params) : Obj := Obj.mk (.type "tuple") none (.seq [].toArray 0) #[]
noncomputable def o705 (P : Params) : Obj := Obj.mk .none none (.func (FuncData.mk (Str.ofString "read_name") (Str.ofString "read_name") P73 (.stmts B73) Sc73 0 [] .none .none .none .none none .none .none 0)) #[]
noncomputable def o706 (P : Params) : Obj := Obj.mk (.type "code") none (.fields [(.str (Str.ofString "read_name") 1242), (.str (Str.ofString "read_name") 1243), (.str (Str.ofString "/claim/cut.py") 1244), (.int 499 0), (.int 3 0), (.int 0 0), (.int 0 0), (.int 3 0), (.ref 701), (.bool true), (.int 181 0), (.ref 702), .none, (.ref 703), (.ref 704), (.ref 705), (.int 1249 0), (.int 499 0), (.str (Str.ofString "/claim/cut.py") 1250)].toArray) #[]
noncomputable def o707 (P : Params) : Obj := Obj.mk (.type "function") none (.func (FuncData.mk (Str.ofString "read_name") (Str.ofString "read_name") P73 (.stmts B73) Sc73 3 [] .none .none .none (.str (Str.ofString "perlcore.repieces") 1157) none (.ref 706) .none 0)) #[]
noncomputable def o708 (P : Params) : Obj := Obj.mk (.type "tuple") none (.seq [].toArray 0) #[]
noncomputable def o709 (P : Params) : Obj := Obj.mk .none none (.fields [].toArray) #[]
noncomputable def o710 (P : Params) : Obj := Obj.mk (.type "tuple") none (.seq [(.str (Str.ofString "state") 1255), (.str (Str.ofString "numbers") 1256), (.str (Str.ofString "at") 1257)].toArray 0) #[]
noncomputable def o711 (P : Params) : Obj := Obj.mk (.type "tuple") none (.seq [].toArray 0) #[]
noncomputable def o712 (P : Params) : Obj := Obj.mk .none none (.func (FuncData.mk (Str.ofString "speak_of") (Str.ofString "speak_of") P74 (.stmts B74) Sc74 0 [] .none .none .none .none none .none .none 0)) #[]
noncomputable def o713 (P : Params) : Obj := Obj.mk (.type "code") none (.fields [(.str (Str.ofString "speak_of") 1252), (.str (Str.ofString "speak_of") 1253), (.str (Str.ofString "/claim/cut.py") 1254), (.int 504 0), (.int 3 0), (.int 0 0), (.int 0 0), (.int 3 0), (.ref 708), (.bool true), (.int 181 0), (.ref 709), .none, (.ref 710), (.ref 711), (.ref 712), (.int 1258 0), (.int 504 0), (.str (Str.ofString "/claim/cut.py") 1259)].toArray) #[]
noncomputable def o714 (P : Params) : Obj := Obj.mk (.type "function") none (.func (FuncData.mk (Str.ofString "speak_of") (Str.ofString "speak_of") P74 (.stmts B74) Sc74 3 [] .none .none .none (.str (Str.ofString "perlcore.repieces") 1157) none (.ref 713) .none 0)) #[]
noncomputable def T18p0 (P : Params) : BT := (((((((((((((((((((((((((((((((((((((((((T17 P).ins 3 (o3v18 P)).ins 12 (o12v18 P)).ins 650 (o650 P)).ins 651 (o651 P)).ins 652 (o652 P)).ins 653 (o653 P)).ins 654 (o654 P)).ins 655 (o655 P)).ins 656 (o656 P)).ins 657 (o657 P)).ins 658 (o658 P)).ins 659 (o659 P)).ins 660 (o660 P)).ins 661 (o661 P)).ins 662 (o662 P)).ins 663 (o663 P)).ins 664 (o664 P)).ins 665 (o665 P)).ins 666 (o666 P)).ins 667 (o667 P)).ins 668 (o668 P)).ins 669 (o669 P)).ins 670 (o670 P)).ins 671 (o671 P)).ins 672 (o672 P)).ins 673 (o673 P)).ins 674 (o674 P)).ins 675 (o675 P)).ins 676 (o676 P)).ins 677 (o677 P)).ins 678 (o678 P)).ins 679 (o679 P)).ins 680 (o680 P)).ins 681 (o681 P)).ins 682 (o682 P)).ins 683 (o683 P)).ins 684 (o684 P)).ins 685 (o685 P)).ins 686 (o686 P)).ins 687 (o687 P))
noncomputable def T18 (P : Params) : BT := ((((((((((((((((((((((((((((T18p0 P).ins 688 (o688 P)).ins 689 (o689 P)).ins 690 (o690 P)).ins 691 (o691 P)).ins 692 (o692 P)).ins 693 (o693 P)).ins 694 (o694 P)).ins 695 (o695 P)).ins 696 (o696 P)).ins 697 (o697 P)).ins 698 (o698 P)).ins 699 (o699 P)).ins 700 (o700 P)).ins 701 (o701 P)).ins 702 (o702 P)).ins 703 (o703 P)).ins 704 (o704 P)).ins 705 (o705 P)).ins 706 (o706 P)).ins 707 (o707 P)).ins 708 (o708 P)).ins 709 (o709 P)).ins 710 (o710 P)).ins 711 (o711 P)).ins 712 (o712 P)).ins 713 (o713 P)).ins 714 (o714 P))
@[reducible] noncomputable def sts17 : List Stmt := (bodyE.drop 75).take 13
theorem q17f : ∀ w : World, (fun os => sgT (w.withFollow "special-get-raises" false) 381 ⟨T17 w.params, 650, {}, ⟨[]⟩, {}, 1157, os⟩ (thr sts17 ⟨415, 0, 431, 48⟩)) = fun os => some (Flow.next, ⟨T18 w.params, 715, {}, ⟨[]⟩, {}, 1261, os⟩, cE, ⟨504, 0, 506, 18⟩) := fun w => by kernel_rfl
theorem q17t : ∀ w : World, (fun os => sgT (w.withFollow "special-get-raises" true) 381 ⟨T17 w.params, 650, {}, ⟨[]⟩, {}, 1157, os⟩ (thr sts17 ⟨415, 0, 431, 48⟩)) = fun os => some (Flow.next, ⟨T18 w.params, 715, {}, ⟨[]⟩, {}, 1261, os⟩, cE, ⟨504, 0, 506, 18⟩) := fun w => by kernel_rfl
theorem q17 : ∀ w : World, (fun os => sgT w 381 ⟨T17 w.params, 650, {}, ⟨[]⟩, {}, 1157, os⟩ (thr sts17 ⟨415, 0, 431, 48⟩)) = fun os => some (Flow.next, ⟨T18 w.params, 715, {}, ⟨[]⟩, {}, 1261, os⟩, cE, ⟨504, 0, 506, 18⟩) := fun w => by
  have e := World.withFollow_self w "special-get-raises"
  cases hb : w.params.followText "special-get-raises" <;> rw [hb] at e
  · have h := q17f w; rw [e] at h; exact h
  · have h := q17t w; rw [e] at h; exact h
noncomputable def d3v19 (P : Params) : List DictEntry := [E P "read_named_back" 1270 (.ref 721), E P "read_numbered_back" 1283 (.ref 728), E P "width_of" 1289 (.ref 733), E P "FLAG_LETTERS" 1293 (.str (Str.ofString "imsx") 1292), E P "MOST_NESTED" 1295 (.int 40 1294), E P "LOOKS" 1300 (.ref 738), E P "NAME_SIGNS" 1307 (.ref 742), E P "skip_unseen" 1316 (.ref 749), E P "read_flags" 1322 (.ref 754), E P "read_inline" 1332 (.ref 761), E P "read_alternation" 1342 (.ref 768), E P "read_branch" 1352 (.ref 775), E P "read_atom" 1361 (.ref 782), E P "read_counted" 1373 (.ref 789)]
noncomputable def n3v19 (P : Params) : List DictEntry := d3v1 P ++ (d3v2 P ++ (d3v3 P ++ (d3v4 P ++ (d3v5 P ++ (d3v6 P ++ (d3v7 P ++ (d3v8 P ++ (d3v9 P ++ (d3v10 P ++ (d3v11 P ++ (d3v12 P ++ (d3v13 P ++ (d3v14 P ++ (d3v15 P ++ (d3v16 P ++ (d3v17 P ++ (d3v18 P ++ d3v19 P)))))))))))))))))
noncomputable def o3v19 (P : Params) : Obj := Obj.mk (.type "dict") none (.dict ([E P "__name__" 165 (.str (Str.ofString "perlcore.repattern") 1290), E P "__doc__" 166 .none, E P "__package__" 167 .none, E P "__loader__" 168 (.builtin "__main__.__loader__#opaque"), E P "__spec__" 169 .none, E P "__annotations__" 170 (.ref 6), E P "__builtins__" 171 (.ref 4), E P "__file__" 173 (.str (Str.ofString "/claim/cut.py") 172), E P "__cached__" 174 .none] ++ n3v19 P : List DictEntry).toArray 101) #[]
noncomputable def d12v19 : List Value := [(.int 507 0), (.int 0 0), (.ref 720), (.int 512 0), (.int 0 0), (.ref 727), (.int 522 0), (.int 0 0), (.ref 732), (.int 544 0), (.int 0 0), (.ref 748), (.int 555 0), (.int 0 0), (.ref 753), (.int 559 0), (.int 0 0), (.ref 760), (.int 568 0), (.int 0 0), (.ref 767), (.int 575 0), (.int 0 0), (.ref 774), (.int 586 0), (.int 0 0), (.ref 781), (.int 604 0), (.int 0 0), (.ref 788)]
noncomputable def n12v19 : List Value := d12v1 ++ (d12v2 ++ (d12v3 ++ (d12v4 ++ (d12v5 ++ (d12v6 ++ (d12v7 ++ (d12v8 ++ (d12v9 ++ (d12v10 ++ (d12v11 ++ (d12v12 ++ (d12v13 ++ (d12v14 ++ (d12v15 ++ (d12v16 ++ (d12v17 ++ (d12v18 ++ d12v19)))))))))))))))))
noncomputable def o12v19 (P : Params) : Obj := Obj.mk .none none (.fields (n12v19).toArray) #[]
noncomputable def o715 (P : Params) : Obj := Obj.mk (.type "tuple") none (.seq [].toArray 0) #[]
noncomputable def o716 (P : Params) : Obj := Obj.mk .none none (.fields [].toArray) #[]
noncomputable def o717 (P : Params) : Obj := Obj.mk (.type "tuple") none (.seq [(.str (Str.ofString "state") 1264), (.str (Str.ofString "at") 1265), (.str (Str.ofString "opening") 1266), (.str (Str.ofString "close") 1267)].toArray 0) #[]
noncomputable def o718 (P : Params) : Obj := Obj.mk (.type "tuple") none (.seq [].toArray 0) #[]
noncomputable def o719 (P : Params) : Obj := Obj.mk .none none (.func (FuncData.mk (Str.ofString "read_named_back") (Str.ofString "read_named_back") P75 (.stmts B75) Sc75 0 [] .none .none .none .none none .none .none 0)) #[]
noncomputable def o720 (P : Params) : Obj := Obj.mk (.type "code") none (.fields [(.str (Str.ofString "read_named_back") 1261), (.str (Str.ofString "read_named_back") 1262), (.str (Str.ofString "/claim/cut.py") 1263), (.int 507 0), (.int 2 0), (.int 0 0), (.int 0 0), (.int 3 0), (.ref 715), (.bool true), (.int 181 0), (.ref 716), .none, (.ref 717), (.ref 718), (.ref 719), (.int 1268 0), (.int 507 0), (.str (Str.ofString "/claim/cut.py") 1269)].toArray) #[]
noncomputable def o721 (P : Params) : Obj := Obj.mk (.type "function") none (.func (FuncData.mk (Str.ofString "read_named_back") (Str.ofString "read_named_back") P75 (.stmts B75) Sc75 3 [] .none .none .none (.str (Str.ofString "perlcore.repieces") 1157) none (.ref 720) .none 0)) #[]
noncomputable def o722 (P : Params) : Obj := Obj.mk (.type "tuple") none (.seq [].toArray 0) #[]
noncomputable def o723 (P : Params) : Obj := Obj.mk .none none (.fields [].toArray) #[]
noncomputable def o724 (P : Params) : Obj := Obj.mk (.type "tuple") none (.seq [(.str (Str.ofString "state") 1274), (.str (Str.ofString "at") 1275), (.str (Str.ofString "begun") 1276), (.str (Str.ofString "has_braces") 1277), (.str (Str.ofString "is_back") 1278), (.str (Str.ofString "run") 1279), (.str (Str.ofString "number") 1280)].toArray 0) #[]
noncomputable def o725 (P : Params) : Obj := Obj.mk (.type "tuple") none (.seq [].toArray 0) #[]
noncomputable def o726 (P : Params) : Obj := Obj.mk .none none (.func (FuncData.mk (Str.ofString "read_numbered_back") (Str.ofString "read_numbered_back") P76 (.stmts B76) Sc76 0 [] .none .none .none .none none .none .none 0)) #[]
noncomputable def o727 (P : Params) : Obj := Obj.mk (.type "code") none (.fields [(.str (Str.ofString "read_numbered_back") 1271), (.str (Str.ofString "read_numbered_back") 1272), (.str (Str.ofString "/claim/cut.py") 1273), (.int 512 0), (.int 2 0), (.int 0 0), (.int 0 0), (.int 3 0), (.ref 722), (.bool true), (.int 181 0), (.ref 723), .none, (.ref 724), (.ref 725), (.ref 726), (.int 1281 0), (.int 512 0), (.str (Str.ofString "/claim/cut.py") 1282)].toArray) #[]
noncomputable def o728 (P : Params) : Obj := Obj.mk (.type "function") none (.func (FuncData.mk (Str.ofString "read_numbered_back") (Str.ofString "read_numbered_back") P76 (.stmts B76) Sc76 3 [] .none .none .none (.str (Str.ofString "perlcore.repieces") 1157) none (.ref 727) .none 0)) #[]
noncomputable def o729 (P : Params) : Obj := Obj.mk (.type "tuple") none (.seq [].toArray 0) #[]
noncomputable def o730 (P : Params) : Obj := Obj.mk .none none (.fields [].toArray) #[]
noncomputable def o731 (P : Params) : Obj := Obj.mk .none none (.func (FuncData.mk (Str.ofString "width_of") (Str.ofString "width_of") P77 (.stmts B77) Sc77 0 [] .none .none .none .none none .none .none 0)) #[]
noncomputable def o732 (P : Params) : Obj := Obj.mk (.type "code") none (.fields [(.str (Str.ofString "width_of") 1284), (.str (Str.ofString "width_of") 1285), (.str (Str.ofString "/claim/cut.py") 1286), (.int 522 0), (.int 1 0), (.int 0 0), (.int 0 0), (.int 3 0), (.ref 729), (.bool true), (.int 181 0), (.ref 730), .none, .none, .none, (.ref 731), (.int 1287 0), (.int 522 0), (.str (Str.ofString "/claim/cut.py") 1288)].toArray) #[]
noncomputable def o733 (P : Params) : Obj := Obj.mk (.type "function") none (.func (FuncData.mk (Str.ofString "width_of") (Str.ofString "width_of") P77 (.stmts B77) Sc77 3 [] .none .none .none (.str (Str.ofString "perlcore.repieces") 1157) none (.ref 732) .none 0)) #[]
noncomputable def o734 (P : Params) : Obj := Obj.mk (.type "tuple") none (.seq [(.str (Str.ofString "(?=") 1296), (.bool false), (.bool false)].toArray 0) #[]
noncomputable def o735 (P : Params) : Obj := Obj.mk (.type "tuple") none (.seq [(.str (Str.ofString "(?!") 1297), (.bool false), (.bool true)].toArray 0) #[]
noncomputable def o736 (P : Params) : Obj := Obj.mk (.type "tuple") none (.seq [(.str (Str.ofString "(?<=") 1298), (.bool true), (.bool false)].toArray 0) #[]
noncomputable def o737 (P : Params) : Obj := Obj.mk (.type "tuple") none (.seq [(.str (Str.ofString "(?<!") 1299), (.bool true), (.bool true)].toArray 0) #[]
noncomputable def o738 (P : Params) : Obj := Obj.mk (.type "list") none (.seq [(.ref 734), (.ref 735), (.ref 736), (.ref 737)].toArray 0) #[]
noncomputable def o739 (P : Params) : Obj := Obj.mk (.type "tuple") none (.seq [(.str (Str.ofString "(?<") 1301), (.str (Str.ofString ">") 1302)].toArray 0) #[]
noncomputable def o740 (P : Params) : Obj := Obj.mk (.type "tuple") none (.seq [(.str (Str.ofString "(?P<") 1303), (.str (Str.ofString ">") 1304)].toArray 0) #[]
noncomputable def o741 (P : Params) : Obj := Obj.mk (.type "tuple") none (.seq [(.str (Str.ofString "(?'") 1305), (.str (Str.ofString "'") 1306)].toArray 0) #[]
noncomputable def o742 (P : Params) : Obj := Obj.mk (.type "list") none (.seq [(.ref 739), (.ref 740), (.ref 741)].toArray 0) #[]
noncomputable def o743 (P : Params) : Obj := Obj.mk (.type "tuple") none (.seq [].toArray 0) #[]
noncomputable def o744 (P : Params) : Obj := Obj.mk .none none (.fields [].toArray) #[]
noncomputable def o745 (P : Params) : Obj := Obj.mk (.type "tuple") none (.seq [(.str (Str.ofString "state") 1311), (.str (Str.ofString "flags") 1312), (.str (Str.ofString "close") 1313)].toArray 0) #[]
noncomputable def o746 (P : Params) : Obj := Obj.mk (.type "tuple") none (.seq [].toArray 0) #[]
noncomputable def o747 (P : Params) : Obj := Obj.mk .none none (.func (FuncData.mk (Str.ofString "skip_unseen") (Str.ofString "skip_unseen") P78 (.stmts B78) Sc78 0 [] .none .none .none .none none .none .none 0)) #[]
noncomputable def o748 (P : Params) : Obj := Obj.mk (.type "code") none (.fields [(.str (Str.ofString "skip_unseen") 1308), (.str (Str.ofString "skip_unseen") 1309), (.str (Str.ofString "/claim/cut.py") 1310), (.int 544 0), (.int 2 0), (.int 0 0), (.int 0 0), (.int 3 0), (.ref 743), (.bool true), (.int 181 0), (.ref 744), .none, (.ref 745), (.ref 746), (.ref 747), (.int 1314 0), (.int 544 0), (.str (Str.ofString "/claim/cut.py") 1315)].toArray) #[]
noncomputable def o749 (P : Params) : Obj := Obj.mk (.type "function") none (.func (FuncData.mk (Str.ofString "skip_unseen") (Str.ofString "skip_unseen") P78 (.stmts B78) Sc78 3 [] .none .none .none (.str (Str.ofString "perlcore.repattern") 1290) none (.ref 748) .none 0)) #[]
noncomputable def o750 (P : Params) : Obj := Obj.mk (.type "tuple") none (.seq [].toArray 0) #[]
noncomputable def o751 (P : Params) : Obj := Obj.mk .none none (.fields [].toArray) #[]
noncomputable def o752 (P : Params) : Obj := Obj.mk .none none (.func (FuncData.mk (Str.ofString "read_flags") (Str.ofString "read_flags") P79 (.stmts B79) Sc79 0 [] .none .none .none .none none .none .none 0)) #[]
noncomputable def o753 (P : Params) : Obj := Obj.mk (.type "code") none (.fields [(.str (Str.ofString "read_flags") 1317), (.str (Str.ofString "read_flags") 1318), (.str (Str.ofString "/claim/cut.py") 1319), (.int 555 0), (.int 2 0), (.int 0 0), (.int 0 0), (.int 3 0), (.ref 750), (.bool true), (.int 181 0), (.ref 751), .none, .none, .none, (.ref 752), (.int 1320 0), (.int 555 0), (.str (Str.ofString "/claim/cut.py") 1321)].toArray) #[]
noncomputable def o754 (P : Params) : Obj := Obj.mk (.type "function") none (.func (FuncData.mk (Str.ofString "read_flags") (Str.ofString "read_flags") P79 (.stmts B79) Sc79 3 [] .none .none .none (.str (Str.ofString "perlcore.repattern") 1290) none (.ref 753) .none 0)) #[]
noncomputable def o755 (P : Params) : Obj := Obj.mk (.type "tuple") none (.seq [].toArray 0) #[]
noncomputable def o756 (P : Params) : Obj := Obj.mk .none none (.fields [].toArray) #[]
noncomputable def o757 (P : Params) : Obj := Obj.mk (.type "tuple") none (.seq [(.str (Str.ofString "state") 1326), (.str (Str.ofString "flags") 1327), (.str (Str.ofString "begun") 1328), (.str (Str.ofString "found") 1329)].toArray 0) #[]
noncomputable def o758 (P : Params) : Obj := Obj.mk (.type "tuple") none (.seq [].toArray 0) #[]
noncomputable def o759 (P : Params) : Obj := Obj.mk .none none (.func (FuncData.mk (Str.ofString "read_inline") (Str.ofString "read_inline") P80 (.stmts B80) Sc80 0 [] .none .none .none .none none .none .none 0)) #[]
noncomputable def o760 (P : Params) : Obj := Obj.mk (.type "code") none (.fields [(.str (Str.ofString "read_inline") 1323), (.str (Str.ofString "read_inline") 1324), (.str (Str.ofString "/claim/cut.py") 1325), (.int 559 0), (.int 2 0), (.int 0 0), (.int 0 0), (.int 3 0), (.ref 755), (.bool true), (.int 181 0), (.ref 756), .none, (.ref 757), (.ref 758), (.ref 759), (.int 1330 0), (.int 559 0), (.str (Str.ofString "/claim/cut.py") 1331)].toArray) #[]
noncomputable def o761 (P : Params) : Obj := Obj.mk (.type "function") none (.func (FuncData.mk (Str.ofString "read_inline") (Str.ofString "read_inline") P80 (.stmts B80) Sc80 3 [] .none .none .none (.str (Str.ofString "perlcore.repattern") 1290) none (.ref 760) .none 0)) #[]
noncomputable def o762 (P : Params) : Obj := Obj.mk (.type "tuple") none (.seq [].toArray 0) #[]
noncomputable def o763 (P : Params) : Obj := Obj.mk .none none (.fields [].toArray) #[]
noncomputable def o764 (P : Params) : Obj := Obj.mk (.type "tuple") none (.seq [(.str (Str.ofString "state") 1336), (.str (Str.ofString "flags") 1337), (.str (Str.ofString "branches") 1338), (.str (Str.ofString "node") 1339)].toArray 0) #[]
noncomputable def o765 (P : Params) : Obj := Obj.mk (.type "tuple") none (.seq [].toArray 0) #[]
noncomputable def o766 (P : Params) : Obj := Obj.mk .none none (.func (FuncData.mk (Str.ofString "read_alternation") (Str.ofString "read_alternation") P81 (.stmts B81) Sc81 0 [] .none .none .none .none none .none .none 0)) #[]
noncomputable def o767 (P : Params) : Obj := Obj.mk (.type "code") none (.fields [(.str (Str.ofString "read_alternation") 1333), (.str (Str.ofString "read_alternation") 1334), (.str (Str.ofString "/claim/cut.py") 1335), (.int 568 0), (.int 2 0), (.int 0 0), (.int 0 0), (.int 3 0), (.ref 762), (.bool true), (.int 181 0), (.ref 763), .none, (.ref 764), (.ref 765), (.ref 766), (.int 1340 0), (.int 568 0), (.str (Str.ofString "/claim/cut.py") 1341)].toArray) #[]
noncomputable def o768 (P : Params) : Obj := Obj.mk (.type "function") none (.func (FuncData.mk (Str.ofString "read_alternation") (Str.ofString "read_alternation") P81 (.stmts B81) Sc81 3 [] .none .none .none (.str (Str.ofString "perlcore.repattern") 1290) none (.ref 767) .none 0)) #[]
noncomputable def o769 (P : Params) : Obj := Obj.mk (.type "tuple") none (.seq [].toArray 0) #[]
noncomputable def o770 (P : Params) : Obj := Obj.mk .none none (.fields [].toArray) #[]
noncomputable def o771 (P : Params) : Obj := Obj.mk (.type "tuple") none (.seq [(.str (Str.ofString "state") 1346), (.str (Str.ofString "flags") 1347), (.str (Str.ofString "parts") 1348), (.str (Str.ofString "changed") 1349)].toArray 0) #[]
noncomputable def o772 (P : Params) : Obj := Obj.mk (.type "tuple") none (.seq [].toArray 0) #[]
noncomputable def o773 (P : Params) : Obj := Obj.mk .none none (.func (FuncData.mk (Str.ofString "read_branch") (Str.ofString "read_branch") P82 (.stmts B82) Sc82 0 [] .none .none .none .none none .none .none 0)) #[]
noncomputable def o774 (P : Params) : Obj := Obj.mk (.type "code") none (.fields [(.str (Str.ofString "read_branch") 1343), (.str (Str.ofString "read_branch") 1344), (.str (Str.ofString "/claim/cut.py") 1345), (.int 575 0), (.int 2 0), (.int 0 0), (.int 0 0), (.int 3 0), (.ref 769), (.bool true), (.int 181 0), (.ref 770), .none, (.ref 771), (.ref 772), (.ref 773), (.int 1350 0), (.int 575 0), (.str (Str.ofString "/claim/cut.py") 1351)].toArray) #[]
noncomputable def o775 (P : Params) : Obj := Obj.mk (.type "function") none (.func (FuncData.mk (Str.ofString "read_branch") (Str.ofString "read_branch") P82 (.stmts B82) Sc82 3 [] .none .none .none (.str (Str.ofString "perlcore.repattern") 1290) none (.ref 774) .none 0)) #[]
noncomputable def o776 (P : Params) : Obj := Obj.mk (.type "tuple") none (.seq [].toArray 0) #[]
noncomputable def o777 (P : Params) : Obj := Obj.mk .none none (.fields [].toArray) #[]
noncomputable def o778 (P : Params) : Obj := Obj.mk (.type "tuple") none (.seq [(.str (Str.ofString "state") 1356), (.str (Str.ofString "flags") 1357), (.str (Str.ofString "sign") 1358)].toArray 0) #[]
noncomputable def o779 (P : Params) : Obj := Obj.mk (.type "tuple") none (.seq [].toArray 0) #[]
noncomputable def o780 (P : Params) : Obj := Obj.mk .none none (.func (FuncData.mk (Str.ofString "read_atom") (Str.ofString "read_atom") P83 (.stmts B83) Sc83 0 [] .none .none .none .none none .none .none 0)) #[]
noncomputable def o781 (P : Params) : Obj := Obj.mk (.type "code") none (.fields [(.str (Str.ofString "read_atom") 1353), (.str (Str.ofString "read_atom") 1354), (.str (Str.ofString "/claim/cut.py") 1355), (.int 586 0), (.int 2 0), (.int 0 0), (.int 0 0), (.int 3 0), (.ref 776), (.bool true), (.int 181 0), (.ref 777), .none, (.ref 778), (.ref 779), (.ref 780), (.int 1359 0), (.int 586 0), (.str (Str.ofString "/claim/cut.py") 1360)].toArray) #[]
noncomputable def o782 (P : Params) : Obj := Obj.mk (.type "function") none (.func (FuncData.mk (Str.ofString "read_atom") (Str.ofString "read_atom") P83 (.stmts B83) Sc83 3 [] .none .none .none (.str (Str.ofString "perlcore.repattern") 1290) none (.ref 781) .none 0)) #[]
noncomputable def o783 (P : Params) : Obj := Obj.mk (.type "tuple") none (.seq [].toArray 0) #[]
noncomputable def o784 (P : Params) : Obj := Obj.mk .none none (.fields [].toArray) #[]
noncomputable def o785 (P : Params) : Obj := Obj.mk (.type "tuple") none (.seq [(.str (Str.ofString "state") 1365), (.str (Str.ofString "flags") 1366), (.str (Str.ofString "node") 1367), (.str (Str.ofString "count") 1368), (.str (Str.ofString "mode") 1369), (.str (Str.ofString "begun") 1370)].toArray 0) #[]
noncomputable def o786 (P : Params) : Obj := Obj.mk (.type "tuple") none (.seq [].toArray 0) #[]
noncomputable def o787 (P : Params) : Obj := Obj.mk .none none (.func (FuncData.mk (Str.ofString "read_counted") (Str.ofString "read_counted") P84 (.stmts B84) Sc84 0 [] .none .none .none .none none .none .none 0)) #[]
noncomputable def o788 (P : Params) : Obj := Obj.mk (.type "code") none (.fields [(.str (Str.ofString "read_counted") 1362), (.str (Str.ofString "read_counted") 1363), (.str (Str.ofString "/claim/cut.py") 1364), (.int 604 0), (.int 3 0), (.int 0 0), (.int 0 0), (.int 3 0), (.ref 783), (.bool true), (.int 181 0), (.ref 784), .none, (.ref 785), (.ref 786), (.ref 787), (.int 1371 0), (.int 604 0), (.str (Str.ofString "/claim/cut.py") 1372)].toArray) #[]
noncomputable def o789 (P : Params) : Obj := Obj.mk (.type "function") none (.func (FuncData.mk (Str.ofString "read_counted") (Str.ofString "read_counted") P84 (.stmts B84) Sc84 3 [] .none .none .none (.str (Str.ofString "perlcore.repattern") 1290) none (.ref 788) .none 0)) #[]
noncomputable def T19p0 (P : Params) : BT := (((((((((((((((((((((((((((((((((((((((((T18 P).ins 3 (o3v19 P)).ins 12 (o12v19 P)).ins 715 (o715 P)).ins 716 (o716 P)).ins 717 (o717 P)).ins 718 (o718 P)).ins 719 (o719 P)).ins 720 (o720 P)).ins 721 (o721 P)).ins 722 (o722 P)).ins 723 (o723 P)).ins 724 (o724 P)).ins 725 (o725 P)).ins 726 (o726 P)).ins 727 (o727 P)).ins 728 (o728 P)).ins 729 (o729 P)).ins 730 (o730 P)).ins 731 (o731 P)).ins 732 (o732 P)).ins 733 (o733 P)).ins 734 (o734 P)).ins 735 (o735 P)).ins 736 (o736 P)).ins 737 (o737 P)).ins 738 (o738 P)).ins 739 (o739 P)).ins 740 (o740 P)).ins 741 (o741 P)).ins 742 (o742 P)).ins 743 (o743 P)).ins 744 (o744 P)).ins 745 (o745 P)).ins 746 (o746 P)).ins 747 (o747 P)).ins 748 (o748 P)).ins 749 (o749 P)).ins 750 (o750 P)).ins 751 (o751 P)).ins 752 (o752 P))
noncomputable def T19 (P : Params) : BT := ((((((((((((((((((((((((((((((((((((((T19p0 P).ins 753 (o753 P)).ins 754 (o754 P)).ins 755 (o755 P)).ins 756 (o756 P)).ins 757 (o757 P)).ins 758 (o758 P)).ins 759 (o759 P)).ins 760 (o760 P)).ins 761 (o761 P)).ins 762 (o762 P)).ins 763 (o763 P)).ins 764 (o764 P)).ins 765 (o765 P)).ins 766 (o766 P)).ins 767 (o767 P)).ins 768 (o768 P)).ins 769 (o769 P)).ins 770 (o770 P)).ins 771 (o771 P)).ins 772 (o772 P)).ins 773 (o773 P)).ins 774 (o774 P)).ins 775 (o775 P)).ins 776 (o776 P)).ins 777 (o777 P)).ins 778 (o778 P)).ins 779 (o779 P)).ins 780 (o780 P)).ins 781 (o781 P)).ins 782 (o782 P)).ins 783 (o783 P)).ins 784 (o784 P)).ins 785 (o785 P)).ins 786 (o786 P)).ins 787 (o787 P)).ins 788 (o788 P)).ins 789 (o789 P))
@[reducible] noncomputable def sts18 : List Stmt := (bodyE.drop 88).take 15
theorem q18 : ∀ w : World, (fun os => sgT w 383 ⟨T18 w.params, 715, {}, ⟨[]⟩, {}, 1261, os⟩ (thr sts18 ⟨504, 0, 506, 18⟩)) = fun os => some (Flow.next, ⟨T19 w.params, 790, {}, ⟨[]⟩, {}, 1374, os⟩, cE, ⟨604, 0, 622, 50⟩) := fun w => by kernel_rfl
noncomputable def d3v20 (P : Params) : List DictEntry := [E P "read_inner" 1383 (.ref 796), E P "read_capture" 1394 (.ref 803), E P "read_look" 1407 (.ref 810), E P "read_group" 1421 (.ref 817), E P "is_sign_told" 1428 (.ref 824), E P "read_escape" 1441 (.ref 831), E P "parse_pattern" 1447 (.ref 836), E P "compile_pattern" 1460 (.ref 843)]
noncomputable def n3v20 (P : Params) : List DictEntry := d3v1 P ++ (d3v2 P ++ (d3v3 P ++ (d3v4 P ++ (d3v5 P ++ (d3v6 P ++ (d3v7 P ++ (d3v8 P ++ (d3v9 P ++ (d3v10 P ++ (d3v11 P ++ (d3v12 P ++ (d3v13 P ++ (d3v14 P ++ (d3v15 P ++ (d3v16 P ++ (d3v17 P ++ (d3v18 P ++ (d3v19 P ++ d3v20 P))))))))))))))))))
noncomputable def o3v20 (P : Params) : Obj := Obj.mk (.type "dict") none (.dict ([E P "__name__" 165 (.str (Str.ofString "perlcore.frames") 1461), E P "__doc__" 166 .none, E P "__package__" 167 .none, E P "__loader__" 168 (.builtin "__main__.__loader__#opaque"), E P "__spec__" 169 .none, E P "__annotations__" 170 (.ref 6), E P "__builtins__" 171 (.ref 4), E P "__file__" 173 (.str (Str.ofString "/claim/cut.py") 172), E P "__cached__" 174 .none] ++ n3v20 P : List DictEntry).toArray 109) #[]
noncomputable def d12v20 : List Value := [(.int 623 0), (.int 0 0), (.ref 795), (.int 632 0), (.int 0 0), (.ref 802), (.int 638 0), (.int 0 0), (.ref 809), (.int 644 0), (.int 0 0), (.ref 816), (.int 663 0), (.int 0 0), (.ref 823), (.int 665 0), (.int 0 0), (.ref 830), (.int 689 0), (.int 0 0), (.ref 835), (.int 699 0), (.int 0 0), (.ref 842)]
noncomputable def n12v20 : List Value := d12v1 ++ (d12v2 ++ (d12v3 ++ (d12v4 ++ (d12v5 ++ (d12v6 ++ (d12v7 ++ (d12v8 ++ (d12v9 ++ (d12v10 ++ (d12v11 ++ (d12v12 ++ (d12v13 ++ (d12v14 ++ (d12v15 ++ (d12v16 ++ (d12v17 ++ (d12v18 ++ (d12v19 ++ d12v20))))))))))))))))))
noncomputable def o12v20 (P : Params) : Obj := Obj.mk .none none (.fields (n12v20).toArray) #[]
noncomputable def o790 (P : Params) : Obj := Obj.mk (.type "tuple") none (.seq [].toArray 0) #[]
noncomputable def o791 (P : Params) : Obj := Obj.mk .none none (.fields [].toArray) #[]
noncomputable def o792 (P : Params) : Obj := Obj.mk (.type "tuple") none (.seq [(.str (Str.ofString "state") 1377), (.str (Str.ofString "flags") 1378), (.str (Str.ofString "begun") 1379), (.str (Str.ofString "node") 1380)].toArray 0) #[]
noncomputable def o793 (P : Params) : Obj := Obj.mk (.type "tuple") none (.seq [].toArray 0) #[]
noncomputable def o794 (P : Params) : Obj := Obj.mk .none none (.func (FuncData.mk (Str.ofString "read_inner") (Str.ofString "read_inner") P85 (.stmts B85) Sc85 0 [] .none .none .none .none none .none .none 0)) #[]
noncomputable def o795 (P : Params) : Obj := Obj.mk (.type "code") none (.fields [(.str (Str.ofString "read_inner") 1374), (.str (Str.ofString "read_inner") 1375), (.str (Str.ofString "/claim/cut.py") 1376), (.int 623 0), (.int 3 0), (.int 0 0), (.int 0 0), (.int 3 0), (.ref 790), (.bool true), (.int 181 0), (.ref 791), .none, (.ref 792), (.ref 793), (.ref 794), (.int 1381 0), (.int 623 0), (.str (Str.ofString "/claim/cut.py") 1382)].toArray) #[]
noncomputable def o796 (P : Params) : Obj := Obj.mk (.type "function") none (.func (FuncData.mk (Str.ofString "read_inner") (Str.ofString "read_inner") P85 (.stmts B85) Sc85 3 [] .none .none .none (.str (Str.ofString "perlcore.repattern") 1290) none (.ref 795) .none 0)) #[]
noncomputable def o797 (P : Params) : Obj := Obj.mk (.type "tuple") none (.seq [].toArray 0) #[]
noncomputable def o798 (P : Params) : Obj := Obj.mk .none none (.fields [].toArray) #[]
noncomputable def o799 (P : Params) : Obj := Obj.mk (.type "tuple") none (.seq [(.str (Str.ofString "state") 1387), (.str (Str.ofString "flags") 1388), (.str (Str.ofString "begun") 1389), (.str (Str.ofString "name") 1390), (.str (Str.ofString "number") 1391)].toArray 0) #[]
noncomputable def o800 (P : Params) : Obj := Obj.mk (.type "tuple") none (.seq [].toArray 0) #[]
noncomputable def o801 (P : Params) : Obj := Obj.mk .none none (.func (FuncData.mk (Str.ofString "read_capture") (Str.ofString "read_capture") P86 (.stmts B86) Sc86 0 [] .none .none .none .none none .none .none 0)) #[]
noncomputable def o802 (P : Params) : Obj := Obj.mk (.type "code") none (.fields [(.str (Str.ofString "read_capture") 1384), (.str (Str.ofString "read_capture") 1385), (.str (Str.ofString "/claim/cut.py") 1386), (.int 632 0), (.int 4 0), (.int 0 0), (.int 0 0), (.int 3 0), (.ref 797), (.bool true), (.int 181 0), (.ref 798), .none, (.ref 799), (.ref 800), (.ref 801), (.int 1392 0), (.int 632 0), (.str (Str.ofString "/claim/cut.py") 1393)].toArray) #[]
noncomputable def o803 (P : Params) : Obj := Obj.mk (.type "function") none (.func (FuncData.mk (Str.ofString "read_capture") (Str.ofString "read_capture") P86 (.stmts B86) Sc86 3 [] .none .none .none (.str (Str.ofString "perlcore.repattern") 1290) none (.ref 802) .none 0)) #[]
noncomputable def o804 (P : Params) : Obj := Obj.mk (.type "tuple") none (.seq [].toArray 0) #[]
noncomputable def o805 (P : Params) : Obj := Obj.mk .none none (.fields [].toArray) #[]
noncomputable def o806 (P : Params) : Obj := Obj.mk (.type "tuple") none (.seq [(.str (Str.ofString "state") 1398), (.str (Str.ofString "flags") 1399), (.str (Str.ofString "begun") 1400), (.str (Str.ofString "is_behind") 1401), (.str (Str.ofString "is_negated") 1402), (.str (Str.ofString "node") 1403), (.str (Str.ofString "width") 1404)].toArray 0) #[]
noncomputable def o807 (P : Params) : Obj := Obj.mk (.type "tuple") none (.seq [].toArray 0) #[]
noncomputable def o808 (P : Params) : Obj := Obj.mk .none none (.func (FuncData.mk (Str.ofString "read_look") (Str.ofString "read_look") P87 (.stmts B87) Sc87 0 [] .none .none .none .none none .none .none 0)) #[]
noncomputable def o809 (P : Params) : Obj := Obj.mk (.type "code") none (.fields [(.str (Str.ofString "read_look") 1395), (.str (Str.ofString "read_look") 1396), (.str (Str.ofString "/claim/cut.py") 1397), (.int 638 0), (.int 5 0), (.int 0 0), (.int 0 0), (.int 3 0), (.ref 804), (.bool true), (.int 181 0), (.ref 805), .none, (.ref 806), (.ref 807), (.ref 808), (.int 1405 0), (.int 638 0), (.str (Str.ofString "/claim/cut.py") 1406)].toArray) #[]
noncomputable def o810 (P : Params) : Obj := Obj.mk (.type "function") none (.func (FuncData.mk (Str.ofString "read_look") (Str.ofString "read_look") P87 (.stmts B87) Sc87 3 [] .none .none .none (.str (Str.ofString "perlcore.repattern") 1290) none (.ref 809) .none 0)) #[]
noncomputable def o811 (P : Params) : Obj := Obj.mk (.type "tuple") none (.seq [].toArray 0) #[]
noncomputable def o812 (P : Params) : Obj := Obj.mk .none none (.fields [].toArray) #[]
noncomputable def o813 (P : Params) : Obj := Obj.mk (.type "tuple") none (.seq [(.str (Str.ofString "state") 1411), (.str (Str.ofString "flags") 1412), (.str (Str.ofString "begun") 1413), (.str (Str.ofString "opening") 1414), (.str (Str.ofString "is_behind") 1415), (.str (Str.ofString "is_negated") 1416), (.str (Str.ofString "close") 1417), (.str (Str.ofString "changed") 1418)].toArray 0) #[]
noncomputable def o814 (P : Params) : Obj := Obj.mk (.type "tuple") none (.seq [].toArray 0) #[]
noncomputable def o815 (P : Params) : Obj := Obj.mk .none none (.func (FuncData.mk (Str.ofString "read_group") (Str.ofString "read_group") P88 (.stmts B88) Sc88 0 [] .none .none .none .none none .none .none 0)) #[]
noncomputable def o816 (P : Params) : Obj := Obj.mk (.type "code") none (.fields [(.str (Str.ofString "read_group") 1408), (.str (Str.ofString "read_group") 1409), (.str (Str.ofString "/claim/cut.py") 1410), (.int 644 0), (.int 2 0), (.int 0 0), (.int 0 0), (.int 3 0), (.ref 811), (.bool true), (.int 181 0), (.ref 812), .none, (.ref 813), (.ref 814), (.ref 815), (.int 1419 0), (.int 644 0), (.str (Str.ofString "/claim/cut.py") 1420)].toArray) #[]
noncomputable def o817 (P : Params) : Obj := Obj.mk (.type "function") none (.func (FuncData.mk (Str.ofString "read_group") (Str.ofString "read_group") P88 (.stmts B88) Sc88 3 [] .none .none .none (.str (Str.ofString "perlcore.repattern") 1290) none (.ref 816) .none 0)) #[]
noncomputable def o818 (P : Params) : Obj := Obj.mk (.type "tuple") none (.seq [].toArray 0) #[]
noncomputable def o819 (P : Params) : Obj := Obj.mk .none none (.fields [].toArray) #[]
noncomputable def o820 (P : Params) : Obj := Obj.mk (.type "tuple") none (.seq [(.str (Str.ofString "state") 1425)].toArray 0) #[]
noncomputable def o821 (P : Params) : Obj := Obj.mk (.type "tuple") none (.seq [].toArray 0) #[]
noncomputable def o822 (P : Params) : Obj := Obj.mk .none none (.func (FuncData.mk (Str.ofString "is_sign_told") (Str.ofString "is_sign_told") P89 (.stmts B89) Sc89 0 [] .none .none .none .none none .none .none 0)) #[]
noncomputable def o823 (P : Params) : Obj := Obj.mk (.type "code") none (.fields [(.str (Str.ofString "is_sign_told") 1422), (.str (Str.ofString "is_sign_told") 1423), (.str (Str.ofString "/claim/cut.py") 1424), (.int 663 0), (.int 1 0), (.int 0 0), (.int 0 0), (.int 3 0), (.ref 818), (.bool true), (.int 181 0), (.ref 819), .none, (.ref 820), (.ref 821), (.ref 822), (.int 1426 0), (.int 663 0), (.str (Str.ofString "/claim/cut.py") 1427)].toArray) #[]
noncomputable def o824 (P : Params) : Obj := Obj.mk (.type "function") none (.func (FuncData.mk (Str.ofString "is_sign_told") (Str.ofString "is_sign_told") P89 (.stmts B89) Sc89 3 [] .none .none .none (.str (Str.ofString "perlcore.repattern") 1290) none (.ref 823) .none 0)) #[]
noncomputable def o825 (P : Params) : Obj := Obj.mk (.type "tuple") none (.seq [].toArray 0) #[]
noncomputable def o826 (P : Params) : Obj := Obj.mk .none none (.fields [].toArray) #[]
noncomputable def o827 (P : Params) : Obj := Obj.mk (.type "tuple") none (.seq [(.str (Str.ofString "state") 1432), (.str (Str.ofString "flags") 1433), (.str (Str.ofString "at") 1434), (.str (Str.ofString "is_folded") 1435), (.str (Str.ofString "letter") 1436), (.str (Str.ofString "begun") 1437), (.str (Str.ofString "number") 1438)].toArray 0) #[]
noncomputable def o828 (P : Params) : Obj := Obj.mk (.type "tuple") none (.seq [].toArray 0) #[]
noncomputable def o829 (P : Params) : Obj := Obj.mk .none none (.func (FuncData.mk (Str.ofString "read_escape") (Str.ofString "read_escape") P90 (.stmts B90) Sc90 0 [] .none .none .none .none none .none .none 0)) #[]
noncomputable def o830 (P : Params) : Obj := Obj.mk (.type "code") none (.fields [(.str (Str.ofString "read_escape") 1429), (.str (Str.ofString "read_escape") 1430), (.str (Str.ofString "/claim/cut.py") 1431), (.int 665 0), (.int 2 0), (.int 0 0), (.int 0 0), (.int 3 0), (.ref 825), (.bool true), (.int 181 0), (.ref 826), .none, (.ref 827), (.ref 828), (.ref 829), (.int 1439 0), (.int 665 0), (.str (Str.ofString "/claim/cut.py") 1440)].toArray) #[]
noncomputable def o831 (P : Params) : Obj := Obj.mk (.type "function") none (.func (FuncData.mk (Str.ofString "read_escape") (Str.ofString "read_escape") P90 (.stmts B90) Sc90 3 [] .none .none .none (.str (Str.ofString "perlcore.repattern") 1290) none (.ref 830) .none 0)) #[]
noncomputable def o832 (P : Params) : Obj := Obj.mk (.type "tuple") none (.seq [].toArray 0) #[]
noncomputable def o833 (P : Params) : Obj := Obj.mk .none none (.fields [].toArray) #[]
noncomputable def o834 (P : Params) : Obj := Obj.mk .none none (.func (FuncData.mk (Str.ofString "parse_pattern") (Str.ofString "parse_pattern") P91 (.stmts B91) Sc91 0 [] .none .none .none .none none .none .none 0)) #[]
noncomputable def o835 (P : Params) : Obj := Obj.mk (.type "code") none (.fields [(.str (Str.ofString "parse_pattern") 1442), (.str (Str.ofString "parse_pattern") 1443), (.str (Str.ofString "/claim/cut.py") 1444), (.int 689 0), (.int 2 0), (.int 0 0), (.int 0 0), (.int 3 0), (.ref 832), (.bool true), (.int 181 0), (.ref 833), .none, .none, .none, (.ref 834), (.int 1445 0), (.int 689 0), (.str (Str.ofString "/claim/cut.py") 1446)].toArray) #[]
noncomputable def o836 (P : Params) : Obj := Obj.mk (.type "function") none (.func (FuncData.mk (Str.ofString "parse_pattern") (Str.ofString "parse_pattern") P91 (.stmts B91) Sc91 3 [] .none .none .none (.str (Str.ofString "perlcore.repattern") 1290) none (.ref 835) .none 0)) #[]
noncomputable def o837 (P : Params) : Obj := Obj.mk (.type "tuple") none (.seq [].toArray 0) #[]
noncomputable def o838 (P : Params) : Obj := Obj.mk .none none (.fields [].toArray) #[]
noncomputable def o839 (P : Params) : Obj := Obj.mk (.type "tuple") none (.seq [(.str (Str.ofString "text") 1453), (.str (Str.ofString "flags") 1454), (.str (Str.ofString "node") 1455), (.str (Str.ofString "groups") 1456), (.str (Str.ofString "names") 1457)].toArray 0) #[]
noncomputable def o840 (P : Params) : Obj := Obj.mk (.type "tuple") none (.seq [].toArray 0) #[]
noncomputable def o841 (P : Params) : Obj := Obj.mk .none none (.func (FuncData.mk (Str.ofString "compile_pattern") (Str.ofString "compile_pattern") P92 (.stmts B92) Sc92 0 [] .none .none .none .none none .none .none 0)) #[]
noncomputable def o842 (P : Params) : Obj := Obj.mk (.type "code") none (.fields [(.str (Str.ofString "compile_pattern") 1450), (.str (Str.ofString "compile_pattern") 1451), (.str (Str.ofString "/claim/cut.py") 1452), (.int 699 0), (.int 2 0), (.int 0 0), (.int 0 0), (.int 3 0), (.ref 837), (.bool true), (.int 181 0), (.ref 838), .none, (.ref 839), (.ref 840), (.ref 841), (.int 1458 0), (.int 699 0), (.str (Str.ofString "/claim/cut.py") 1459)].toArray) #[]
noncomputable def o843 (P : Params) : Obj := Obj.mk (.type "function") none (.func (FuncData.mk (Str.ofString "compile_pattern") (Str.ofString "compile_pattern") P92 (.stmts B92) Sc92 3 [] .none .none .none (.str (Str.ofString "perlcore.patterns") 1448) none (.ref 842) .none 0)) #[]
noncomputable def T20p0 (P : Params) : BT := (((((((((((((((((((((((((((((((((((((((((T19 P).ins 3 (o3v20 P)).ins 12 (o12v20 P)).ins 790 (o790 P)).ins 791 (o791 P)).ins 792 (o792 P)).ins 793 (o793 P)).ins 794 (o794 P)).ins 795 (o795 P)).ins 796 (o796 P)).ins 797 (o797 P)).ins 798 (o798 P)).ins 799 (o799 P)).ins 800 (o800 P)).ins 801 (o801 P)).ins 802 (o802 P)).ins 803 (o803 P)).ins 804 (o804 P)).ins 805 (o805 P)).ins 806 (o806 P)).ins 807 (o807 P)).ins 808 (o808 P)).ins 809 (o809 P)).ins 810 (o810 P)).ins 811 (o811 P)).ins 812 (o812 P)).ins 813 (o813 P)).ins 814 (o814 P)).ins 815 (o815 P)).ins 816 (o816 P)).ins 817 (o817 P)).ins 818 (o818 P)).ins 819 (o819 P)).ins 820 (o820 P)).ins 821 (o821 P)).ins 822 (o822 P)).ins 823 (o823 P)).ins 824 (o824 P)).ins 825 (o825 P)).ins 826 (o826 P)).ins 827 (o827 P))
noncomputable def T20 (P : Params) : BT := (((((((((((((((((T20p0 P).ins 828 (o828 P)).ins 829 (o829 P)).ins 830 (o830 P)).ins 831 (o831 P)).ins 832 (o832 P)).ins 833 (o833 P)).ins 834 (o834 P)).ins 835 (o835 P)).ins 836 (o836 P)).ins 837 (o837 P)).ins 838 (o838 P)).ins 839 (o839 P)).ins 840 (o840 P)).ins 841 (o841 P)).ins 842 (o842 P)).ins 843 (o843 P))
@[reducible] noncomputable def sts19 : List Stmt := (bodyE.drop 103).take 10
theorem q19 : ∀ w : World, (fun os => sgT w 278 ⟨T19 w.params, 790, {}, ⟨[]⟩, {}, 1374, os⟩ (thr sts19 ⟨604, 0, 622, 50⟩)) = fun os => some (Flow.next, ⟨T20 w.params, 844, {}, ⟨[]⟩, {}, 1463, os⟩, cE, ⟨702, 0, 702, 8⟩) := fun w => by kernel_rfl
noncomputable def d3v21 (P : Params) : List DictEntry := [E P "Frame" 1501 (.ref 860)]
noncomputable def n3v21 (P : Params) : List DictEntry := d3v1 P ++ (d3v2 P ++ (d3v3 P ++ (d3v4 P ++ (d3v5 P ++ (d3v6 P ++ (d3v7 P ++ (d3v8 P ++ (d3v9 P ++ (d3v10 P ++ (d3v11 P ++ (d3v12 P ++ (d3v13 P ++ (d3v14 P ++ (d3v15 P ++ (d3v16 P ++ (d3v17 P ++ (d3v18 P ++ (d3v19 P ++ (d3v20 P ++ d3v21 P)))))))))))))))))))
noncomputable def o3v21 (P : Params) : Obj := Obj.mk (.type "dict") none (.dict ([E P "__name__" 165 (.str (Str.ofString "perlcore.frames") 1461), E P "__doc__" 166 .none, E P "__package__" 167 .none, E P "__loader__" 168 (.builtin "__main__.__loader__#opaque"), E P "__spec__" 169 .none, E P "__annotations__" 170 (.ref 6), E P "__builtins__" 171 (.ref 4), E P "__file__" 173 (.str (Str.ofString "/claim/cut.py") 172), E P "__cached__" 174 .none] ++ n3v21 P : List DictEntry).toArray 110) #[]
noncomputable def d12v21 : List Value := [(.int 703 0), (.int 0 0), (.ref 849)]
noncomputable def n12v21 : List Value := d12v1 ++ (d12v2 ++ (d12v3 ++ (d12v4 ++ (d12v5 ++ (d12v6 ++ (d12v7 ++ (d12v8 ++ (d12v9 ++ (d12v10 ++ (d12v11 ++ (d12v12 ++ (d12v13 ++ (d12v14 ++ (d12v15 ++ (d12v16 ++ (d12v17 ++ (d12v18 ++ (d12v19 ++ (d12v20 ++ d12v21)))))))))))))))))))
noncomputable def o12v21 (P : Params) : Obj := Obj.mk .none none (.fields (n12v21).toArray) #[]
noncomputable def o844 (P : Params) : Obj := Obj.mk (.type "tuple") none (.seq [].toArray 0) #[]
noncomputable def o845 (P : Params) : Obj := Obj.mk (.type "builtin_function_or_method") none (.fields [(.builtin "type.__prepare__"), (.type "type")].toArray) #[]
noncomputable def o846 (P : Params) : Obj := Obj.mk (.type "dict") none (.dict ([E P "__module__" 1470 (.str (Str.ofString "perlcore.frames") 1461), E P "__qualname__" 1472 (.str (Str.ofString "Frame") 1471), E P "__firstlineno__" 1474 (.int 703 1473), E P "__init__" 1487 (.ref 857), E P "__static_attributes__" 1494 (.ref 858)] : List DictEntry).toArray 5) #[]
noncomputable def o847 (P : Params) : Obj := Obj.mk (.type "tuple") none (.seq [].toArray 0) #[]
noncomputable def o848 (P : Params) : Obj := Obj.mk .none none (.fields [(.int 705 0), (.int 4 0), (.ref 856)].toArray) #[]
noncomputable def o849 (P : Params) : Obj := Obj.mk (.type "code") none (.fields [(.str (Str.ofString "Frame") 1465), (.str (Str.ofString "Frame") 1466), (.str (Str.ofString "/claim/cut.py") 1467), (.int 703 0), (.int 0 0), (.int 0 0), (.int 0 0), (.int 0 0), (.ref 847), (.bool false), (.int 181 0), (.ref 848), .none, .none, .none, .none, (.int 1468 0), (.int 703 0), (.str (Str.ofString "/claim/cut.py") 1469)].toArray) #[]
noncomputable def o850 (P : Params) : Obj := Obj.mk (.type "frame") none .plain [(some (.ref 849)), (some (.ref 3)), (some (.ref 846)), none, (some (.str (Str.ofString "perlcore.frames") 1461)), none, (some (.ref 0))].toArray
noncomputable def o851 (P : Params) : Obj := Obj.mk (.type "tuple") none (.seq [].toArray 0) #[]
noncomputable def o852 (P : Params) : Obj := Obj.mk .none none (.fields [].toArray) #[]
noncomputable def o853 (P : Params) : Obj := Obj.mk (.type "tuple") none (.seq [(.str (Str.ofString "self") 1478), (.str (Str.ofString "pad") 1479), (.str (Str.ofString "args") 1480), (.str (Str.ofString "want") 1481), (.str (Str.ofString "code") 1482), (.str (Str.ofString "package") 1483), (.str (Str.ofString "line") 1484)].toArray 0) #[]
noncomputable def o854 (P : Params) : Obj := Obj.mk (.type "tuple") none (.seq [].toArray 0) #[]
noncomputable def o855 (P : Params) : Obj := Obj.mk .none none (.func (FuncData.mk (Str.ofString "__init__") (Str.ofString "Frame.__init__") P93 (.stmts B93) Sc93 0 [] .none .none .none .none none .none .none 0)) #[]
noncomputable def o856 (P : Params) : Obj := Obj.mk (.type "code") none (.fields [(.str (Str.ofString "__init__") 1475), (.str (Str.ofString "Frame.__init__") 1476), (.str (Str.ofString "/claim/cut.py") 1477), (.int 705 0), (.int 7 0), (.int 0 0), (.int 0 0), (.int 3 0), (.ref 851), (.bool true), (.int 181 0), (.ref 852), .none, (.ref 853), (.ref 854), (.ref 855), (.int 1485 0), (.int 705 0), (.str (Str.ofString "/claim/cut.py") 1486)].toArray) #[]
noncomputable def o857 (P : Params) : Obj := Obj.mk (.type "function") none (.func (FuncData.mk (Str.ofString "__init__") (Str.ofString "Frame.__init__") P93 (.stmts B93) Sc93 3 [] .none .none .none (.str (Str.ofString "perlcore.frames") 1461) none (.ref 856) .none 0)) #[]
noncomputable def o858 (P : Params) : Obj := Obj.mk (.type "tuple") none (.seq [(.str (Str.ofString "args") 1488), (.str (Str.ofString "code") 1489), (.str (Str.ofString "line") 1490), (.str (Str.ofString "package") 1491), (.str (Str.ofString "pad") 1492), (.str (Str.ofString "want") 1493)].toArray 0) #[]
noncomputable def o859 (P : Params) : Obj := Obj.mk (.type "dict") none (.dict ([E P "__module__" 1470 (.str (Str.ofString "perlcore.frames") 1461), E P "__firstlineno__" 1474 (.int 703 1473), E P "__init__" 1487 (.ref 857), E P "__static_attributes__" 1494 (.ref 858), E P "__dict__" 1496 (.ref 861), E P "__weakref__" 1498 (.ref 862), E P "__doc__" 1499 .none] : List DictEntry).toArray 4) #[]
noncomputable def o860 (P : Params) : Obj := Obj.mk (.type "type") none (.cls (ClassData.mk (Str.ofString "Frame") [(.type "object")] [(.ref 860), (.type "object")] 859 (Str.ofString "Frame") true [] [] false none false)) [none, none, (some (.str (Str.ofString "Frame") 1463)), (some (.str (Str.ofString "Frame") 1471)), (some (.builtin "object.__new__")), (some (.bool true))].toArray
noncomputable def o861 (P : Params) : Obj := Obj.mk (.type "getset_descriptor") none (.fields [(.str (Str.ofString "__dict__") 1495), (.ref 860), (.builtin "function.__dict__"), (.builtin "function.__dict__#set")].toArray) #[]
noncomputable def o862 (P : Params) : Obj := Obj.mk (.type "getset_descriptor") none (.fields [(.str (Str.ofString "__weakref__") 1497), (.ref 860), (.builtin "ExceptionGroup.__weakref__"), .none].toArray) #[]
noncomputable def o863 (P : Params) : Obj := Obj.mk (.type "super") none (.fields [(.ref 860), (.ref 860), (.ref 860)].toArray) #[]
noncomputable def o864 (P : Params) : Obj := Obj.mk (.type "builtin_function_or_method") none (.fields [(.builtin "object.__init_subclass__"), (.ref 860)].toArray) #[]
noncomputable def T21 (P : Params) : BT := ((((((((((((((((((((((((T20 P).ins 3 (o3v21 P)).ins 12 (o12v21 P)).ins 844 (o844 P)).ins 845 (o845 P)).ins 846 (o846 P)).ins 847 (o847 P)).ins 848 (o848 P)).ins 849 (o849 P)).ins 850 (o850 P)).ins 851 (o851 P)).ins 852 (o852 P)).ins 853 (o853 P)).ins 854 (o854 P)).ins 855 (o855 P)).ins 856 (o856 P)).ins 857 (o857 P)).ins 858 (o858 P)).ins 859 (o859 P)).ins 860 (o860 P)).ins 861 (o861 P)).ins 862 (o862 P)).ins 863 (o863 P)).ins 864 (o864 P))
@[reducible] noncomputable def sts20 : List Stmt := (bodyE.drop 113).take 1
theorem q20 : ∀ w : World, (fun os => sgT w 233 ⟨T20 w.params, 844, {}, ⟨[]⟩, {}, 1463, os⟩ (thr sts20 ⟨702, 0, 702, 8⟩)) = fun os => some (Flow.next, ⟨T21 w.params, 865, {}, ⟨[]⟩, {}, 1502, os⟩, cE, ⟨703, 0, 711, 24⟩) := fun w => by kernel_rfl
noncomputable def d3v22 (P : Params) : List DictEntry := [E P "Run" 1551 (.ref 881), E P "MOST_PILED" 1555 (.int 880 1554), E P "LEAF_COST" 1557 (.int 10 1556), E P "BRACKET_COST" 1559 (.int 10 1558), E P "PATTERN_COST" 1561 (.int 400 1560), E P "UNTOLD" 1564 (.ref 886)]
noncomputable def n3v22 (P : Params) : List DictEntry := d3v1 P ++ (d3v2 P ++ (d3v3 P ++ (d3v4 P ++ (d3v5 P ++ (d3v6 P ++ (d3v7 P ++ (d3v8 P ++ (d3v9 P ++ (d3v10 P ++ (d3v11 P ++ (d3v12 P ++ (d3v13 P ++ (d3v14 P ++ (d3v15 P ++ (d3v16 P ++ (d3v17 P ++ (d3v18 P ++ (d3v19 P ++ (d3v20 P ++ (d3v21 P ++ d3v22 P))))))))))))))))))))
noncomputable def o3v22 (P : Params) : Obj := Obj.mk (.type "dict") none (.dict ([E P "__name__" 165 (.str (Str.ofString "perlcore.piles") 1552), E P "__doc__" 166 .none, E P "__package__" 167 .none, E P "__loader__" 168 (.builtin "__main__.__loader__#opaque"), E P "__spec__" 169 .none, E P "__annotations__" 170 (.ref 6), E P "__builtins__" 171 (.ref 4), E P "__file__" 173 (.str (Str.ofString "/claim/cut.py") 172), E P "__cached__" 174 .none] ++ n3v22 P : List DictEntry).toArray 116) #[]
noncomputable def d12v22 : List Value := [(.int 712 0), (.int 0 0), (.ref 870)]
noncomputable def n12v22 : List Value := d12v1 ++ (d12v2 ++ (d12v3 ++ (d12v4 ++ (d12v5 ++ (d12v6 ++ (d12v7 ++ (d12v8 ++ (d12v9 ++ (d12v10 ++ (d12v11 ++ (d12v12 ++ (d12v13 ++ (d12v14 ++ (d12v15 ++ (d12v16 ++ (d12v17 ++ (d12v18 ++ (d12v19 ++ (d12v20 ++ (d12v21 ++ d12v22))))))))))))))))))))
noncomputable def o12v22 (P : Params) : Obj := Obj.mk .none none (.fields (n12v22).toArray) #[]
noncomputable def o865 (P : Params) : Obj := Obj.mk (.type "tuple") none (.seq [].toArray 0) #[]
noncomputable def o866 (P : Params) : Obj := Obj.mk (.type "builtin_function_or_method") none (.fields [(.builtin "type.__prepare__"), (.type "type")].toArray) #[]
noncomputable def o867 (P : Params) : Obj := Obj.mk (.type "dict") none (.dict ([E P "__module__" 1509 (.str (Str.ofString "perlcore.frames") 1461), E P "__qualname__" 1511 (.str (Str.ofString "Run") 1510), E P "__firstlineno__" 1513 (.int 712 1512), E P "__init__" 1524 (.ref 878), E P "__static_attributes__" 1544 (.ref 879)] : List DictEntry).toArray 5) #[]
noncomputable def o868 (P : Params) : Obj := Obj.mk (.type "tuple") none (.seq [].toArray 0) #[]
noncomputable def o869 (P : Params) : Obj := Obj.mk .none none (.fields [(.int 714 0), (.int 4 0), (.ref 877)].toArray) #[]
noncomputable def o870 (P : Params) : Obj := Obj.mk (.type "code") none (.fields [(.str (Str.ofString "Run") 1504), (.str (Str.ofString "Run") 1505), (.str (Str.ofString "/claim/cut.py") 1506), (.int 712 0), (.int 0 0), (.int 0 0), (.int 0 0), (.int 0 0), (.ref 868), (.bool false), (.int 181 0), (.ref 869), .none, .none, .none, .none, (.int 1507 0), (.int 712 0), (.str (Str.ofString "/claim/cut.py") 1508)].toArray) #[]
noncomputable def o871 (P : Params) : Obj := Obj.mk (.type "frame") none .plain [(some (.ref 870)), (some (.ref 3)), (some (.ref 867)), none, (some (.str (Str.ofString "perlcore.frames") 1461)), none, (some (.ref 0))].toArray
noncomputable def o872 (P : Params) : Obj := Obj.mk (.type "tuple") none (.seq [].toArray 0) #[]
noncomputable def o873 (P : Params) : Obj := Obj.mk .none none (.fields [].toArray) #[]
noncomputable def o874 (P : Params) : Obj := Obj.mk (.type "tuple") none (.seq [(.str (Str.ofString "self") 1517), (.str (Str.ofString "heap") 1518), (.str (Str.ofString "counter") 1519), (.str (Str.ofString "stash") 1520), (.str (Str.ofString "limits") 1521)].toArray 0) #[]
noncomputable def o875 (P : Params) : Obj := Obj.mk (.type "tuple") none (.seq [].toArray 0) #[]
noncomputable def o876 (P : Params) : Obj := Obj.mk .none none (.func (FuncData.mk (Str.ofString "__init__") (Str.ofString "Run.__init__") P94 (.stmts B94) Sc94 0 [] .none .none .none .none none .none .none 0)) #[]
noncomputable def o877 (P : Params) : Obj := Obj.mk (.type "code") none (.fields [(.str (Str.ofString "__init__") 1514), (.str (Str.ofString "Run.__init__") 1515), (.str (Str.ofString "/claim/cut.py") 1516), (.int 714 0), (.int 5 0), (.int 0 0), (.int 0 0), (.int 3 0), (.ref 872), (.bool true), (.int 181 0), (.ref 873), .none, (.ref 874), (.ref 875), (.ref 876), (.int 1522 0), (.int 714 0), (.str (Str.ofString "/claim/cut.py") 1523)].toArray) #[]
noncomputable def o878 (P : Params) : Obj := Obj.mk (.type "function") none (.func (FuncData.mk (Str.ofString "__init__") (Str.ofString "Run.__init__") P94 (.stmts B94) Sc94 3 [] .none .none .none (.str (Str.ofString "perlcore.frames") 1461) none (.ref 877) .none 0)) #[]
noncomputable def o879 (P : Params) : Obj := Obj.mk (.type "tuple") none (.seq [(.str (Str.ofString "call_code") 1525), (.str (Str.ofString "compile_text") 1526), (.str (Str.ofString "counter") 1527), (.str (Str.ofString "err") 1528), (.str (Str.ofString "frames") 1529), (.str (Str.ofString "funcs") 1530), (.str (Str.ofString "heap") 1531), (.str (Str.ofString "limits") 1532), (.str (Str.ofString "lvs") 1533), (.str (Str.ofString "match") 1534), (.str (Str.ofString "methods") 1535), (.str (Str.ofString "nodes") 1536), (.str (Str.ofString "operators") 1537), (.str (Str.ofString "out") 1538), (.str (Str.ofString "patterns") 1539), (.str (Str.ofString "saves") 1540), (.str (Str.ofString "stash") 1541), (.str (Str.ofString "statements") 1542), (.str (Str.ofString "steps") 1543)].toArray 0) #[]
noncomputable def o880 (P : Params) : Obj := Obj.mk (.type "dict") none (.dict ([E P "__module__" 1509 (.str (Str.ofString "perlcore.frames") 1461), E P "__firstlineno__" 1513 (.int 712 1512), E P "__init__" 1524 (.ref 878), E P "__static_attributes__" 1544 (.ref 879), E P "__dict__" 1546 (.ref 882), E P "__weakref__" 1548 (.ref 883), E P "__doc__" 1549 .none] : List DictEntry).toArray 4) #[]
noncomputable def o881 (P : Params) : Obj := Obj.mk (.type "type") none (.cls (ClassData.mk (Str.ofString "Run") [(.type "object")] [(.ref 881), (.type "object")] 880 (Str.ofString "Run") true [] [] false none false)) [none, none, (some (.str (Str.ofString "Run") 1502)), (some (.str (Str.ofString "Run") 1510)), (some (.builtin "object.__new__")), (some (.bool true))].toArray
noncomputable def o882 (P : Params) : Obj := Obj.mk (.type "getset_descriptor") none (.fields [(.str (Str.ofString "__dict__") 1545), (.ref 881), (.builtin "function.__dict__"), (.builtin "function.__dict__#set")].toArray) #[]
noncomputable def o883 (P : Params) : Obj := Obj.mk (.type "getset_descriptor") none (.fields [(.str (Str.ofString "__weakref__") 1547), (.ref 881), (.builtin "ExceptionGroup.__weakref__"), .none].toArray) #[]
noncomputable def o884 (P : Params) : Obj := Obj.mk (.type "super") none (.fields [(.ref 881), (.ref 881), (.ref 881)].toArray) #[]
noncomputable def o885 (P : Params) : Obj := Obj.mk (.type "builtin_function_or_method") none (.fields [(.builtin "object.__init_subclass__"), (.ref 881)].toArray) #[]
noncomputable def o886 (P : Params) : Obj := Obj.mk (.type "tuple") none (.seq [(.int 0 1562), (.int 0 1563)].toArray 0) #[]
noncomputable def T22 (P : Params) : BT := (((((((((((((((((((((((((T21 P).ins 3 (o3v22 P)).ins 12 (o12v22 P)).ins 865 (o865 P)).ins 866 (o866 P)).ins 867 (o867 P)).ins 868 (o868 P)).ins 869 (o869 P)).ins 870 (o870 P)).ins 871 (o871 P)).ins 872 (o872 P)).ins 873 (o873 P)).ins 874 (o874 P)).ins 875 (o875 P)).ins 876 (o876 P)).ins 877 (o877 P)).ins 878 (o878 P)).ins 879 (o879 P)).ins 880 (o880 P)).ins 881 (o881 P)).ins 882 (o882 P)).ins 883 (o883 P)).ins 884 (o884 P)).ins 885 (o885 P)).ins 886 (o886 P))
@[reducible] noncomputable def sts21 : List Stmt := (bodyE.drop 114).take 7
theorem q21 : ∀ w : World, (fun os => sgT w 301 ⟨T21 w.params, 865, {}, ⟨[]⟩, {}, 1502, os⟩ (thr sts21 ⟨703, 0, 711, 24⟩)) = fun os => some (Flow.next, ⟨T22 w.params, 887, {}, ⟨[]⟩, {}, 1565, os⟩, cE, ⟨739, 0, 739, 6⟩) := fun w => by kernel_rfl
noncomputable def d3v23 (P : Params) : List DictEntry := [E P "CallFrame" 1596 (.ref 903), E P "check_pattern" 1606 (.ref 912), E P "KEPT_SIGNS" 1611 (.ref 913), E P "MADE_SIGNS" 1613 (.int 10 1612), E P "own_flags" 1619 (.ref 918), E P "program_for" 1630 (.ref 925)]
noncomputable def n3v23 (P : Params) : List DictEntry := d3v1 P ++ (d3v2 P ++ (d3v3 P ++ (d3v4 P ++ (d3v5 P ++ (d3v6 P ++ (d3v7 P ++ (d3v8 P ++ (d3v9 P ++ (d3v10 P ++ (d3v11 P ++ (d3v12 P ++ (d3v13 P ++ (d3v14 P ++ (d3v15 P ++ (d3v16 P ++ (d3v17 P ++ (d3v18 P ++ (d3v19 P ++ (d3v20 P ++ (d3v21 P ++ (d3v22 P ++ d3v23 P)))))))))))))))))))))
noncomputable def o3v23 (P : Params) : Obj := Obj.mk (.type "dict") none (.dict ([E P "__name__" 165 (.str (Str.ofString "perlcore.matching") 1607), E P "__doc__" 166 .none, E P "__package__" 167 .none, E P "__loader__" 168 (.builtin "__main__.__loader__#opaque"), E P "__spec__" 169 .none, E P "__annotations__" 170 (.ref 6), E P "__builtins__" 171 (.ref 4), E P "__file__" 173 (.str (Str.ofString "/claim/cut.py") 172), E P "__cached__" 174 .none] ++ n3v23 P : List DictEntry).toArray 122) #[]
noncomputable def d12v23 : List Value := [(.int 740 0), (.int 0 0), (.ref 892), (.int 747 0), (.int 0 0), (.ref 911), (.int 757 0), (.int 0 0), (.ref 917), (.int 759 0), (.int 0 0), (.ref 924)]
noncomputable def n12v23 : List Value := d12v1 ++ (d12v2 ++ (d12v3 ++ (d12v4 ++ (d12v5 ++ (d12v6 ++ (d12v7 ++ (d12v8 ++ (d12v9 ++ (d12v10 ++ (d12v11 ++ (d12v12 ++ (d12v13 ++ (d12v14 ++ (d12v15 ++ (d12v16 ++ (d12v17 ++ (d12v18 ++ (d12v19 ++ (d12v20 ++ (d12v21 ++ (d12v22 ++ d12v23)))))))))))))))))))))
noncomputable def o12v23 (P : Params) : Obj := Obj.mk .none none (.fields (n12v23).toArray) #[]
noncomputable def o860v23 (P : Params) : Obj := Obj.mk (.type "type") none (.cls (ClassData.mk (Str.ofString "Frame") [(.type "object")] [(.ref 860), (.type "object")] 859 (Str.ofString "Frame") true [] [(.ref 903)] false none false)) [none, none, (some (.str (Str.ofString "Frame") 1463)), (some (.str (Str.ofString "Frame") 1471)), (some (.builtin "object.__new__")), (some (.bool true))].toArray
noncomputable def o887 (P : Params) : Obj := Obj.mk (.type "tuple") none (.seq [(.ref 860)].toArray 0) #[]
noncomputable def o888 (P : Params) : Obj := Obj.mk (.type "builtin_function_or_method") none (.fields [(.builtin "type.__prepare__"), (.type "type")].toArray) #[]
noncomputable def o889 (P : Params) : Obj := Obj.mk (.type "dict") none (.dict ([E P "__module__" 1572 (.str (Str.ofString "perlcore.piles") 1552), E P "__qualname__" 1574 (.str (Str.ofString "CallFrame") 1573), E P "__firstlineno__" 1576 (.int 740 1575), E P "__init__" 1589 (.ref 900), E P "__static_attributes__" 1593 (.ref 901)] : List DictEntry).toArray 5) #[]
noncomputable def o890 (P : Params) : Obj := Obj.mk (.type "tuple") none (.seq [].toArray 0) #[]
noncomputable def o891 (P : Params) : Obj := Obj.mk .none none (.fields [(.int 742 0), (.int 4 0), (.ref 899)].toArray) #[]
noncomputable def o892 (P : Params) : Obj := Obj.mk (.type "code") none (.fields [(.str (Str.ofString "CallFrame") 1567), (.str (Str.ofString "CallFrame") 1568), (.str (Str.ofString "/claim/cut.py") 1569), (.int 740 0), (.int 0 0), (.int 0 0), (.int 0 0), (.int 0 0), (.ref 890), (.bool false), (.int 181 0), (.ref 891), .none, .none, .none, .none, (.int 1570 0), (.int 740 0), (.str (Str.ofString "/claim/cut.py") 1571)].toArray) #[]
noncomputable def o893 (P : Params) : Obj := Obj.mk (.type "frame") none .plain [(some (.ref 892)), (some (.ref 3)), (some (.ref 889)), none, (some (.str (Str.ofString "perlcore.piles") 1552)), none, (some (.ref 0))].toArray
noncomputable def o894 (P : Params) : Obj := Obj.mk (.type "tuple") none (.seq [].toArray 0) #[]
noncomputable def o895 (P : Params) : Obj := Obj.mk .none none (.fields [].toArray) #[]
noncomputable def o896 (P : Params) : Obj := Obj.mk (.type "tuple") none (.seq [(.str (Str.ofString "self") 1580), (.str (Str.ofString "pad") 1581), (.str (Str.ofString "args") 1582), (.str (Str.ofString "want") 1583), (.str (Str.ofString "code") 1584), (.str (Str.ofString "package") 1585), (.str (Str.ofString "line") 1586)].toArray 0) #[]
noncomputable def o897 (P : Params) : Obj := Obj.mk (.type "tuple") none (.seq [].toArray 0) #[]
noncomputable def o898 (P : Params) : Obj := Obj.mk .none none (.func (FuncData.mk (Str.ofString "__init__") (Str.ofString "CallFrame.__init__") P95 (.stmts B95) Sc95 0 [] .none .none .none .none none .none .none 0)) #[]
noncomputable def o899 (P : Params) : Obj := Obj.mk (.type "code") none (.fields [(.str (Str.ofString "__init__") 1577), (.str (Str.ofString "CallFrame.__init__") 1578), (.str (Str.ofString "/claim/cut.py") 1579), (.int 742 0), (.int 7 0), (.int 0 0), (.int 0 0), (.int 3 0), (.ref 894), (.bool true), (.int 181 0), (.ref 895), .none, (.ref 896), (.ref 897), (.ref 898), (.int 1587 0), (.int 742 0), (.str (Str.ofString "/claim/cut.py") 1588)].toArray) #[]
noncomputable def o900 (P : Params) : Obj := Obj.mk (.type "function") none (.func (FuncData.mk (Str.ofString "__init__") (Str.ofString "CallFrame.__init__") P95 (.stmts B95) Sc95 3 [] .none .none .none (.str (Str.ofString "perlcore.piles") 1552) none (.ref 899) .none 0)) #[]
noncomputable def o901 (P : Params) : Obj := Obj.mk (.type "tuple") none (.seq [(.str (Str.ofString "known") 1590), (.str (Str.ofString "piled") 1591), (.str (Str.ofString "weights") 1592)].toArray 0) #[]
noncomputable def o902 (P : Params) : Obj := Obj.mk (.type "dict") none (.dict ([E P "__module__" 1572 (.str (Str.ofString "perlcore.piles") 1552), E P "__firstlineno__" 1576 (.int 740 1575), E P "__init__" 1589 (.ref 900), E P "__static_attributes__" 1593 (.ref 901), E P "__doc__" 1594 .none] : List DictEntry).toArray 2) #[]
noncomputable def o903 (P : Params) : Obj := Obj.mk (.type "type") none (.cls (ClassData.mk (Str.ofString "CallFrame") [(.ref 860)] [(.ref 903), (.ref 860), (.type "object")] 902 (Str.ofString "CallFrame") true [] [] false none false)) [(some (.ref 887)), none, (some (.str (Str.ofString "CallFrame") 1565)), (some (.str (Str.ofString "CallFrame") 1573)), (some (.builtin "object.__new__")), (some (.bool true))].toArray
noncomputable def o904 (P : Params) : Obj := Obj.mk (.type "super") none (.fields [(.ref 903), (.ref 903), (.ref 903)].toArray) #[]
noncomputable def o905 (P : Params) : Obj := Obj.mk (.type "builtin_function_or_method") none (.fields [(.builtin "object.__init_subclass__"), (.ref 903)].toArray) #[]
noncomputable def o906 (P : Params) : Obj := Obj.mk (.type "tuple") none (.seq [].toArray 0) #[]
noncomputable def o907 (P : Params) : Obj := Obj.mk .none none (.fields [].toArray) #[]
noncomputable def o908 (P : Params) : Obj := Obj.mk (.type "tuple") none (.seq [(.str (Str.ofString "run") 1600), (.str (Str.ofString "pattern") 1601), (.str (Str.ofString "frame") 1602), (.str (Str.ofString "cost") 1603)].toArray 0) #[]
noncomputable def o909 (P : Params) : Obj := Obj.mk (.type "tuple") none (.seq [].toArray 0) #[]
noncomputable def o910 (P : Params) : Obj := Obj.mk .none none (.func (FuncData.mk (Str.ofString "check_pattern") (Str.ofString "check_pattern") P96 (.stmts B96) Sc96 0 [] .none .none .none .none none .none .none 0)) #[]
noncomputable def o911 (P : Params) : Obj := Obj.mk (.type "code") none (.fields [(.str (Str.ofString "check_pattern") 1597), (.str (Str.ofString "check_pattern") 1598), (.str (Str.ofString "/claim/cut.py") 1599), (.int 747 0), (.int 2 0), (.int 0 0), (.int 0 0), (.int 3 0), (.ref 906), (.bool true), (.int 181 0), (.ref 907), .none, (.ref 908), (.ref 909), (.ref 910), (.int 1604 0), (.int 747 0), (.str (Str.ofString "/claim/cut.py") 1605)].toArray) #[]
noncomputable def o912 (P : Params) : Obj := Obj.mk (.type "function") none (.func (FuncData.mk (Str.ofString "check_pattern") (Str.ofString "check_pattern") P96 (.stmts B96) Sc96 3 [] .none .none .none (.str (Str.ofString "perlcore.piles") 1552) none (.ref 911) .none 0)) #[]
noncomputable def o913 (P : Params) : Obj := Obj.mk (.type "tuple") none (.seq [(.str (Str.ofString "") 1609), (.str (Str.ofString "signs") 1610)].toArray 0) #[]
noncomputable def o914 (P : Params) : Obj := Obj.mk (.type "tuple") none (.seq [].toArray 0) #[]
noncomputable def o915 (P : Params) : Obj := Obj.mk .none none (.fields [].toArray) #[]
noncomputable def o916 (P : Params) : Obj := Obj.mk .none none (.func (FuncData.mk (Str.ofString "own_flags") (Str.ofString "own_flags") P97 (.stmts B97) Sc97 0 [] .none .none .none .none none .none .none 0)) #[]
noncomputable def o917 (P : Params) : Obj := Obj.mk (.type "code") none (.fields [(.str (Str.ofString "own_flags") 1614), (.str (Str.ofString "own_flags") 1615), (.str (Str.ofString "/claim/cut.py") 1616), (.int 757 0), (.int 1 0), (.int 0 0), (.int 0 0), (.int 3 0), (.ref 914), (.bool true), (.int 181 0), (.ref 915), .none, .none, .none, (.ref 916), (.int 1617 0), (.int 757 0), (.str (Str.ofString "/claim/cut.py") 1618)].toArray) #[]
noncomputable def o918 (P : Params) : Obj := Obj.mk (.type "function") none (.func (FuncData.mk (Str.ofString "own_flags") (Str.ofString "own_flags") P97 (.stmts B97) Sc97 3 [] .none .none .none (.str (Str.ofString "perlcore.matching") 1607) none (.ref 917) .none 0)) #[]
noncomputable def o919 (P : Params) : Obj := Obj.mk (.type "tuple") none (.seq [].toArray 0) #[]
noncomputable def o920 (P : Params) : Obj := Obj.mk .none none (.fields [].toArray) #[]
noncomputable def o921 (P : Params) : Obj := Obj.mk (.type "tuple") none (.seq [(.str (Str.ofString "run") 1623), (.str (Str.ofString "pattern") 1624), (.str (Str.ofString "flags") 1625), (.str (Str.ofString "key") 1626), (.str (Str.ofString "fault") 1627)].toArray 0) #[]
noncomputable def o922 (P : Params) : Obj := Obj.mk (.type "tuple") none (.seq [].toArray 0) #[]
noncomputable def o923 (P : Params) : Obj := Obj.mk .none none (.func (FuncData.mk (Str.ofString "program_for") (Str.ofString "program_for") P98 (.stmts B98) Sc98 0 [] .none .none .none .none none .none .none 0)) #[]
noncomputable def o924 (P : Params) : Obj := Obj.mk (.type "code") none (.fields [(.str (Str.ofString "program_for") 1620), (.str (Str.ofString "program_for") 1621), (.str (Str.ofString "/claim/cut.py") 1622), (.int 759 0), (.int 3 0), (.int 0 0), (.int 0 0), (.int 3 0), (.ref 919), (.bool true), (.int 181 0), (.ref 920), .none, (.ref 921), (.ref 922), (.ref 923), (.int 1628 0), (.int 759 0), (.str (Str.ofString "/claim/cut.py") 1629)].toArray) #[]
noncomputable def o925 (P : Params) : Obj := Obj.mk (.type "function") none (.func (FuncData.mk (Str.ofString "program_for") (Str.ofString "program_for") P98 (.stmts B98) Sc98 3 [] .none .none .none (.str (Str.ofString "perlcore.matching") 1607) none (.ref 924) .none 0)) #[]
noncomputable def T23p0 (P : Params) : BT := (((((((((((((((((((((((((((((((((((((((((T22 P).ins 3 (o3v23 P)).ins 12 (o12v23 P)).ins 860 (o860v23 P)).ins 887 (o887 P)).ins 888 (o888 P)).ins 889 (o889 P)).ins 890 (o890 P)).ins 891 (o891 P)).ins 892 (o892 P)).ins 893 (o893 P)).ins 894 (o894 P)).ins 895 (o895 P)).ins 896 (o896 P)).ins 897 (o897 P)).ins 898 (o898 P)).ins 899 (o899 P)).ins 900 (o900 P)).ins 901 (o901 P)).ins 902 (o902 P)).ins 903 (o903 P)).ins 904 (o904 P)).ins 905 (o905 P)).ins 906 (o906 P)).ins 907 (o907 P)).ins 908 (o908 P)).ins 909 (o909 P)).ins 910 (o910 P)).ins 911 (o911 P)).ins 912 (o912 P)).ins 913 (o913 P)).ins 914 (o914 P)).ins 915 (o915 P)).ins 916 (o916 P)).ins 917 (o917 P)).ins 918 (o918 P)).ins 919 (o919 P)).ins 920 (o920 P)).ins 921 (o921 P)).ins 922 (o922 P)).ins 923 (o923 P))
noncomputable def T23 (P : Params) : BT := (((T23p0 P).ins 924 (o924 P)).ins 925 (o925 P))
@[reducible] noncomputable def sts22 : List Stmt := (bodyE.drop 121).take 7
theorem q22 : ∀ w : World, (fun os => sgT w 374 ⟨T22 w.params, 887, {}, ⟨[]⟩, {}, 1565, os⟩ (thr sts22 ⟨739, 0, 739, 6⟩)) = fun os => some (Flow.next, ⟨T23 w.params, 926, {}, ⟨[]⟩, {}, 1631, os⟩, cE, ⟨759, 0, 767, 28⟩) := fun w => by kernel_rfl
noncomputable def d3v24 (P : Params) : List DictEntry := [E P "keep_program" 1641 (.ref 932), E P "chosen_program" 1651 (.ref 939)]
noncomputable def n3v24 (P : Params) : List DictEntry := d3v1 P ++ (d3v2 P ++ (d3v3 P ++ (d3v4 P ++ (d3v5 P ++ (d3v6 P ++ (d3v7 P ++ (d3v8 P ++ (d3v9 P ++ (d3v10 P ++ (d3v11 P ++ (d3v12 P ++ (d3v13 P ++ (d3v14 P ++ (d3v15 P ++ (d3v16 P ++ (d3v17 P ++ (d3v18 P ++ (d3v19 P ++ (d3v20 P ++ (d3v21 P ++ (d3v22 P ++ (d3v23 P ++ d3v24 P))))))))))))))))))))))
noncomputable def o3v24 (P : Params) : Obj := Obj.mk (.type "dict") none (.dict ([E P "__name__" 165 (.str (Str.ofString "perlcore.counts") 1652), E P "__doc__" 166 .none, E P "__package__" 167 .none, E P "__loader__" 168 (.builtin "__main__.__loader__#opaque"), E P "__spec__" 169 .none, E P "__annotations__" 170 (.ref 6), E P "__builtins__" 171 (.ref 4), E P "__file__" 173 (.str (Str.ofString "/claim/cut.py") 172), E P "__cached__" 174 .none] ++ n3v24 P : List DictEntry).toArray 124) #[]
noncomputable def d12v24 : List Value := [(.int 768 0), (.int 0 0), (.ref 931), (.int 777 0), (.int 0 0), (.ref 938)]
noncomputable def n12v24 : List Value := d12v1 ++ (d12v2 ++ (d12v3 ++ (d12v4 ++ (d12v5 ++ (d12v6 ++ (d12v7 ++ (d12v8 ++ (d12v9 ++ (d12v10 ++ (d12v11 ++ (d12v12 ++ (d12v13 ++ (d12v14 ++ (d12v15 ++ (d12v16 ++ (d12v17 ++ (d12v18 ++ (d12v19 ++ (d12v20 ++ (d12v21 ++ (d12v22 ++ (d12v23 ++ d12v24))))))))))))))))))))))
noncomputable def o12v24 (P : Params) : Obj := Obj.mk .none none (.fields (n12v24).toArray) #[]
noncomputable def o926 (P : Params) : Obj := Obj.mk (.type "tuple") none (.seq [].toArray 0) #[]
noncomputable def o927 (P : Params) : Obj := Obj.mk .none none (.fields [].toArray) #[]
noncomputable def o928 (P : Params) : Obj := Obj.mk (.type "tuple") none (.seq [(.str (Str.ofString "run") 1634), (.str (Str.ofString "key") 1635), (.str (Str.ofString "program") 1636), (.str (Str.ofString "size") 1637), (.str (Str.ofString "kept") 1638)].toArray 0) #[]
noncomputable def o929 (P : Params) : Obj := Obj.mk (.type "tuple") none (.seq [].toArray 0) #[]
noncomputable def o930 (P : Params) : Obj := Obj.mk .none none (.func (FuncData.mk (Str.ofString "keep_program") (Str.ofString "keep_program") P99 (.stmts B99) Sc99 0 [] .none .none .none .none none .none .none 0)) #[]
noncomputable def o931 (P : Params) : Obj := Obj.mk (.type "code") none (.fields [(.str (Str.ofString "keep_program") 1631), (.str (Str.ofString "keep_program") 1632), (.str (Str.ofString "/claim/cut.py") 1633), (.int 768 0), (.int 3 0), (.int 0 0), (.int 0 0), (.int 3 0), (.ref 926), (.bool true), (.int 181 0), (.ref 927), .none, (.ref 928), (.ref 929), (.ref 930), (.int 1639 0), (.int 768 0), (.str (Str.ofString "/claim/cut.py") 1640)].toArray) #[]
noncomputable def o932 (P : Params) : Obj := Obj.mk (.type "function") none (.func (FuncData.mk (Str.ofString "keep_program") (Str.ofString "keep_program") P99 (.stmts B99) Sc99 3 [] .none .none .none (.str (Str.ofString "perlcore.matching") 1607) none (.ref 931) .none 0)) #[]
noncomputable def o933 (P : Params) : Obj := Obj.mk (.type "tuple") none (.seq [].toArray 0) #[]
noncomputable def o934 (P : Params) : Obj := Obj.mk .none none (.fields [].toArray) #[]
noncomputable def o935 (P : Params) : Obj := Obj.mk (.type "tuple") none (.seq [(.str (Str.ofString "run") 1645), (.str (Str.ofString "pattern") 1646), (.str (Str.ofString "flags") 1647), (.str (Str.ofString "last") 1648)].toArray 0) #[]
noncomputable def o936 (P : Params) : Obj := Obj.mk (.type "tuple") none (.seq [].toArray 0) #[]
noncomputable def o937 (P : Params) : Obj := Obj.mk .none none (.func (FuncData.mk (Str.ofString "chosen_program") (Str.ofString "chosen_program") P100 (.stmts B100) Sc100 0 [] .none .none .none .none none .none .none 0)) #[]
noncomputable def o938 (P : Params) : Obj := Obj.mk (.type "code") none (.fields [(.str (Str.ofString "chosen_program") 1642), (.str (Str.ofString "chosen_program") 1643), (.str (Str.ofString "/claim/cut.py") 1644), (.int 777 0), (.int 3 0), (.int 0 0), (.int 0 0), (.int 3 0), (.ref 933), (.bool true), (.int 181 0), (.ref 934), .none, (.ref 935), (.ref 936), (.ref 937), (.int 1649 0), (.int 777 0), (.str (Str.ofString "/claim/cut.py") 1650)].toArray) #[]
noncomputable def o939 (P : Params) : Obj := Obj.mk (.type "function") none (.func (FuncData.mk (Str.ofString "chosen_program") (Str.ofString "chosen_program") P100 (.stmts B100) Sc100 3 [] .none .none .none (.str (Str.ofString "perlcore.matching") 1607) none (.ref 938) .none 0)) #[]
noncomputable def T24 (P : Params) : BT := (((((((((((((((((T23 P).ins 3 (o3v24 P)).ins 12 (o12v24 P)).ins 926 (o926 P)).ins 927 (o927 P)).ins 928 (o928 P)).ins 929 (o929 P)).ins 930 (o930 P)).ins 931 (o931 P)).ins 932 (o932 P)).ins 933 (o933 P)).ins 934 (o934 P)).ins 935 (o935 P)).ins 936 (o936 P)).ins 937 (o937 P)).ins 938 (o938 P)).ins 939 (o939 P))
@[reducible] noncomputable def sts23 : List Stmt := (bodyE.drop 128).take 3
theorem q23 : ∀ w : World, (fun os => sgT w 75 ⟨T23 w.params, 926, {}, ⟨[]⟩, {}, 1631, os⟩ (thr sts23 ⟨759, 0, 767, 28⟩)) = fun os => some (Flow.next, ⟨T24 w.params, 940, {}, ⟨[]⟩, {}, 1654, os⟩, cE, ⟨782, 0, 782, 8⟩) := fun w => by kernel_rfl
noncomputable def d3v25 (P : Params) : List DictEntry := [E P "Counter" 1775 (.ref 1031)]
noncomputable def n3v25 (P : Params) : List DictEntry := d3v1 P ++ (d3v2 P ++ (d3v3 P ++ (d3v4 P ++ (d3v5 P ++ (d3v6 P ++ (d3v7 P ++ (d3v8 P ++ (d3v9 P ++ (d3v10 P ++ (d3v11 P ++ (d3v12 P ++ (d3v13 P ++ (d3v14 P ++ (d3v15 P ++ (d3v16 P ++ (d3v17 P ++ (d3v18 P ++ (d3v19 P ++ (d3v20 P ++ (d3v21 P ++ (d3v22 P ++ (d3v23 P ++ (d3v24 P ++ d3v25 P)))))))))))))))))))))))
noncomputable def o3v25 (P : Params) : Obj := Obj.mk (.type "dict") none (.dict ([E P "__name__" 165 (.str (Str.ofString "perlcore.counts") 1652), E P "__doc__" 166 .none, E P "__package__" 167 .none, E P "__loader__" 168 (.builtin "__main__.__loader__#opaque"), E P "__spec__" 169 .none, E P "__annotations__" 170 (.ref 6), E P "__builtins__" 171 (.ref 4), E P "__file__" 173 (.str (Str.ofString "/claim/cut.py") 172), E P "__cached__" 174 .none] ++ n3v25 P : List DictEntry).toArray 125) #[]
noncomputable def d12v25 : List Value := [(.int 783 0), (.int 0 0), (.ref 945)]
noncomputable def n12v25 : List Value := d12v1 ++ (d12v2 ++ (d12v3 ++ (d12v4 ++ (d12v5 ++ (d12v6 ++ (d12v7 ++ (d12v8 ++ (d12v9 ++ (d12v10 ++ (d12v11 ++ (d12v12 ++ (d12v13 ++ (d12v14 ++ (d12v15 ++ (d12v16 ++ (d12v17 ++ (d12v18 ++ (d12v19 ++ (d12v20 ++ (d12v21 ++ (d12v22 ++ (d12v23 ++ (d12v24 ++ d12v25)))))))))))))))))))))))
noncomputable def o12v25 (P : Params) : Obj := Obj.mk .none none (.fields (n12v25).toArray) #[]
noncomputable def o940 (P : Params) : Obj := Obj.mk (.type "tuple") none (.seq [].toArray 0) #[]
noncomputable def o941 (P : Params) : Obj := Obj.mk (.type "builtin_function_or_method") none (.fields [(.builtin "type.__prepare__"), (.type "type")].toArray) #[]
noncomputable def o942 (P : Params) : Obj := Obj.mk (.type "dict") none (.dict ([E P "__module__" 1661 (.str (Str.ofString "perlcore.counts") 1652), E P "__qualname__" 1663 (.str (Str.ofString "Counter") 1662), E P "__firstlineno__" 1665 (.int 783 1664), E P "__init__" 1674 (.ref 953), E P "hold" 1682 (.ref 960), E P "let_go" 1690 (.ref 967), E P "note" 1698 (.ref 974), E P "take" 1706 (.ref 981), E P "put_off" 1712 (.ref 986), E P "store" 1722 (.ref 993), E P "fresh" 1731 (.ref 1000), E P "drop" 1739 (.ref 1007), E P "settle" 1747 (.ref 1014), E P "finish" 1755 (.ref 1021), E P "free" 1763 (.ref 1028), E P "__static_attributes__" 1768 (.ref 1029)] : List DictEntry).toArray 16) #[]
noncomputable def o943 (P : Params) : Obj := Obj.mk (.type "tuple") none (.seq [].toArray 0) #[]
noncomputable def o944 (P : Params) : Obj := Obj.mk .none none (.fields [(.int 785 0), (.int 4 0), (.ref 952), (.int 791 0), (.int 4 0), (.ref 959), (.int 794 0), (.int 4 0), (.ref 966), (.int 799 0), (.int 4 0), (.ref 973), (.int 802 0), (.int 4 0), (.ref 980), (.int 810 0), (.int 4 0), (.ref 985), (.int 818 0), (.int 4 0), (.ref 992), (.int 828 0), (.int 4 0), (.ref 999), (.int 833 0), (.int 4 0), (.ref 1006), (.int 836 0), (.int 4 0), (.ref 1013), (.int 839 0), (.int 4 0), (.ref 1020), (.int 842 0), (.int 4 0), (.ref 1027)].toArray) #[]
noncomputable def o945 (P : Params) : Obj := Obj.mk (.type "code") none (.fields [(.str (Str.ofString "Counter") 1656), (.str (Str.ofString "Counter") 1657), (.str (Str.ofString "/claim/cut.py") 1658), (.int 783 0), (.int 0 0), (.int 0 0), (.int 0 0), (.int 0 0), (.ref 943), (.bool false), (.int 181 0), (.ref 944), .none, .none, .none, .none, (.int 1659 0), (.int 783 0), (.str (Str.ofString "/claim/cut.py") 1660)].toArray) #[]
noncomputable def o946 (P : Params) : Obj := Obj.mk (.type "frame") none .plain [(some (.ref 945)), (some (.ref 3)), (some (.ref 942)), none, (some (.str (Str.ofString "perlcore.counts") 1652)), none, (some (.ref 0))].toArray
noncomputable def o947 (P : Params) : Obj := Obj.mk (.type "tuple") none (.seq [].toArray 0) #[]
noncomputable def o948 (P : Params) : Obj := Obj.mk .none none (.fields [].toArray) #[]
noncomputable def o949 (P : Params) : Obj := Obj.mk (.type "tuple") none (.seq [(.str (Str.ofString "self") 1669), (.str (Str.ofString "heap") 1670), (.str (Str.ofString "destroy") 1671)].toArray 0) #[]
noncomputable def o950 (P : Params) : Obj := Obj.mk (.type "tuple") none (.seq [].toArray 0) #[]
noncomputable def o951 (P : Params) : Obj := Obj.mk .none none (.func (FuncData.mk (Str.ofString "__init__") (Str.ofString "Counter.__init__") P101 (.stmts B101) Sc101 0 [] .none .none .none .none none .none .none 0)) #[]
noncomputable def o952 (P : Params) : Obj := Obj.mk (.type "code") none (.fields [(.str (Str.ofString "__init__") 1666), (.str (Str.ofString "Counter.__init__") 1667), (.str (Str.ofString "/claim/cut.py") 1668), (.int 785 0), (.int 3 0), (.int 0 0), (.int 0 0), (.int 3 0), (.ref 947), (.bool true), (.int 181 0), (.ref 948), .none, (.ref 949), (.ref 950), (.ref 951), (.int 1672 0), (.int 785 0), (.str (Str.ofString "/claim/cut.py") 1673)].toArray) #[]
noncomputable def o953 (P : Params) : Obj := Obj.mk (.type "function") none (.func (FuncData.mk (Str.ofString "__init__") (Str.ofString "Counter.__init__") P101 (.stmts B101) Sc101 3 [] .none .none .none (.str (Str.ofString "perlcore.counts") 1652) none (.ref 952) .none 0)) #[]
noncomputable def o954 (P : Params) : Obj := Obj.mk (.type "tuple") none (.seq [].toArray 0) #[]
noncomputable def o955 (P : Params) : Obj := Obj.mk .none none (.fields [].toArray) #[]
noncomputable def o956 (P : Params) : Obj := Obj.mk (.type "tuple") none (.seq [(.str (Str.ofString "self") 1678), (.str (Str.ofString "thing") 1679)].toArray 0) #[]
noncomputable def o957 (P : Params) : Obj := Obj.mk (.type "tuple") none (.seq [].toArray 0) #[]
noncomputable def o958 (P : Params) : Obj := Obj.mk .none none (.func (FuncData.mk (Str.ofString "hold") (Str.ofString "Counter.hold") P102 (.stmts B102) Sc102 0 [] .none .none .none .none none .none .none 0)) #[]
noncomputable def o959 (P : Params) : Obj := Obj.mk (.type "code") none (.fields [(.str (Str.ofString "hold") 1675), (.str (Str.ofString "Counter.hold") 1676), (.str (Str.ofString "/claim/cut.py") 1677), (.int 791 0), (.int 2 0), (.int 0 0), (.int 0 0), (.int 3 0), (.ref 954), (.bool true), (.int 181 0), (.ref 955), .none, (.ref 956), (.ref 957), (.ref 958), (.int 1680 0), (.int 791 0), (.str (Str.ofString "/claim/cut.py") 1681)].toArray) #[]
noncomputable def o960 (P : Params) : Obj := Obj.mk (.type "function") none (.func (FuncData.mk (Str.ofString "hold") (Str.ofString "Counter.hold") P102 (.stmts B102) Sc102 3 [] .none .none .none (.str (Str.ofString "perlcore.counts") 1652) none (.ref 959) .none 0)) #[]
noncomputable def o961 (P : Params) : Obj := Obj.mk (.type "tuple") none (.seq [].toArray 0) #[]
noncomputable def o962 (P : Params) : Obj := Obj.mk .none none (.fields [].toArray) #[]
noncomputable def o963 (P : Params) : Obj := Obj.mk (.type "tuple") none (.seq [(.str (Str.ofString "self") 1686), (.str (Str.ofString "thing") 1687)].toArray 0) #[]
noncomputable def o964 (P : Params) : Obj := Obj.mk (.type "tuple") none (.seq [].toArray 0) #[]
noncomputable def o965 (P : Params) : Obj := Obj.mk .none none (.func (FuncData.mk (Str.ofString "let_go") (Str.ofString "Counter.let_go") P103 (.stmts B103) Sc103 0 [] .none .none .none .none none .none .none 0)) #[]
noncomputable def o966 (P : Params) : Obj := Obj.mk (.type "code") none (.fields [(.str (Str.ofString "let_go") 1683), (.str (Str.ofString "Counter.let_go") 1684), (.str (Str.ofString "/claim/cut.py") 1685), (.int 794 0), (.int 2 0), (.int 0 0), (.int 0 0), (.int 3 0), (.ref 961), (.bool true), (.int 181 0), (.ref 962), .none, (.ref 963), (.ref 964), (.ref 965), (.int 1688 0), (.int 794 0), (.str (Str.ofString "/claim/cut.py") 1689)].toArray) #[]
noncomputable def o967 (P : Params) : Obj := Obj.mk (.type "function") none (.func (FuncData.mk (Str.ofString "let_go") (Str.ofString "Counter.let_go") P103 (.stmts B103) Sc103 3 [] .none .none .none (.str (Str.ofString "perlcore.counts") 1652) none (.ref 966) .none 0)) #[]
noncomputable def o968 (P : Params) : Obj := Obj.mk (.type "tuple") none (.seq [].toArray 0) #[]
noncomputable def o969 (P : Params) : Obj := Obj.mk .none none (.fields [].toArray) #[]
noncomputable def o970 (P : Params) : Obj := Obj.mk (.type "tuple") none (.seq [(.str (Str.ofString "self") 1694), (.str (Str.ofString "thing") 1695)].toArray 0) #[]
noncomputable def o971 (P : Params) : Obj := Obj.mk (.type "tuple") none (.seq [].toArray 0) #[]
noncomputable def o972 (P : Params) : Obj := Obj.mk .none none (.func (FuncData.mk (Str.ofString "note") (Str.ofString "Counter.note") P104 (.stmts B104) Sc104 0 [] .none .none .none .none none .none .none 0)) #[]
noncomputable def o973 (P : Params) : Obj := Obj.mk (.type "code") none (.fields [(.str (Str.ofString "note") 1691), (.str (Str.ofString "Counter.note") 1692), (.str (Str.ofString "/claim/cut.py") 1693), (.int 799 0), (.int 2 0), (.int 0 0), (.int 0 0), (.int 3 0), (.ref 968), (.bool true), (.int 181 0), (.ref 969), .none, (.ref 970), (.ref 971), (.ref 972), (.int 1696 0), (.int 799 0), (.str (Str.ofString "/claim/cut.py") 1697)].toArray) #[]
noncomputable def o974 (P : Params) : Obj := Obj.mk (.type "function") none (.func (FuncData.mk (Str.ofString "note") (Str.ofString "Counter.note") P104 (.stmts B104) Sc104 3 [] .none .none .none (.str (Str.ofString "perlcore.counts") 1652) none (.ref 973) .none 0)) #[]
noncomputable def o975 (P : Params) : Obj := Obj.mk (.type "tuple") none (.seq [].toArray 0) #[]
noncomputable def o976 (P : Params) : Obj := Obj.mk .none none (.fields [].toArray) #[]
noncomputable def o977 (P : Params) : Obj := Obj.mk (.type "tuple") none (.seq [(.str (Str.ofString "self") 1702), (.str (Str.ofString "value") 1703)].toArray 0) #[]
noncomputable def o978 (P : Params) : Obj := Obj.mk (.type "tuple") none (.seq [].toArray 0) #[]
noncomputable def o979 (P : Params) : Obj := Obj.mk .none none (.func (FuncData.mk (Str.ofString "take") (Str.ofString "Counter.take") P105 (.stmts B105) Sc105 0 [] .none .none .none .none none .none .none 0)) #[]
noncomputable def o980 (P : Params) : Obj := Obj.mk (.type "code") none (.fields [(.str (Str.ofString "take") 1699), (.str (Str.ofString "Counter.take") 1700), (.str (Str.ofString "/claim/cut.py") 1701), (.int 802 0), (.int 2 0), (.int 0 0), (.int 0 0), (.int 3 0), (.ref 975), (.bool true), (.int 181 0), (.ref 976), .none, (.ref 977), (.ref 978), (.ref 979), (.int 1704 0), (.int 802 0), (.str (Str.ofString "/claim/cut.py") 1705)].toArray) #[]
noncomputable def o981 (P : Params) : Obj := Obj.mk (.type "function") none (.func (FuncData.mk (Str.ofString "take") (Str.ofString "Counter.take") P105 (.stmts B105) Sc105 3 [] .none .none .none (.str (Str.ofString "perlcore.counts") 1652) none (.ref 980) .none 0)) #[]
noncomputable def o982 (P : Params) : Obj := Obj.mk (.type "tuple") none (.seq [].toArray 0) #[]
noncomputable def o983 (P : Params) : Obj := Obj.mk .none none (.fields [].toArray) #[]
noncomputable def o984 (P : Params) : Obj := Obj.mk .none none (.func (FuncData.mk (Str.ofString "put_off") (Str.ofString "Counter.put_off") P106 (.stmts B106) Sc106 0 [] .none .none .none .none none .none .none 0)) #[]
noncomputable def o985 (P : Params) : Obj := Obj.mk (.type "code") none (.fields [(.str (Str.ofString "put_off") 1707), (.str (Str.ofString "Counter.put_off") 1708), (.str (Str.ofString "/claim/cut.py") 1709), (.int 810 0), (.int 3 0), (.int 0 0), (.int 0 0), (.int 3 0), (.ref 982), (.bool true), (.int 181 0), (.ref 983), .none, .none, .none, (.ref 984), (.int 1710 0), (.int 810 0), (.str (Str.ofString "/claim/cut.py") 1711)].toArray) #[]
noncomputable def o986 (P : Params) : Obj := Obj.mk (.type "function") none (.func (FuncData.mk (Str.ofString "put_off") (Str.ofString "Counter.put_off") P106 (.stmts B106) Sc106 3 [] .none .none .none (.str (Str.ofString "perlcore.counts") 1652) none (.ref 985) .none 0)) #[]
noncomputable def o987 (P : Params) : Obj := Obj.mk (.type "tuple") none (.seq [].toArray 0) #[]
noncomputable def o988 (P : Params) : Obj := Obj.mk .none none (.fields [].toArray) #[]
noncomputable def o989 (P : Params) : Obj := Obj.mk (.type "tuple") none (.seq [(.str (Str.ofString "self") 1716), (.str (Str.ofString "scalar") 1717), (.str (Str.ofString "value") 1718), (.str (Str.ofString "old") 1719)].toArray 0) #[]
noncomputable def o990 (P : Params) : Obj := Obj.mk (.type "tuple") none (.seq [].toArray 0) #[]
noncomputable def o991 (P : Params) : Obj := Obj.mk .none none (.func (FuncData.mk (Str.ofString "store") (Str.ofString "Counter.store") P107 (.stmts B107) Sc107 0 [] .none .none .none .none none .none .none 0)) #[]
noncomputable def o992 (P : Params) : Obj := Obj.mk (.type "code") none (.fields [(.str (Str.ofString "store") 1713), (.str (Str.ofString "Counter.store") 1714), (.str (Str.ofString "/claim/cut.py") 1715), (.int 818 0), (.int 3 0), (.int 0 0), (.int 0 0), (.int 3 0), (.ref 987), (.bool true), (.int 181 0), (.ref 988), .none, (.ref 989), (.ref 990), (.ref 991), (.int 1720 0), (.int 818 0), (.str (Str.ofString "/claim/cut.py") 1721)].toArray) #[]
noncomputable def o993 (P : Params) : Obj := Obj.mk (.type "function") none (.func (FuncData.mk (Str.ofString "store") (Str.ofString "Counter.store") P107 (.stmts B107) Sc107 3 [] .none .none .none (.str (Str.ofString "perlcore.counts") 1652) none (.ref 992) .none 0)) #[]
noncomputable def o994 (P : Params) : Obj := Obj.mk (.type "tuple") none (.seq [].toArray 0) #[]
noncomputable def o995 (P : Params) : Obj := Obj.mk .none none (.fields [].toArray) #[]
noncomputable def o996 (P : Params) : Obj := Obj.mk (.type "tuple") none (.seq [(.str (Str.ofString "self") 1726), (.str (Str.ofString "value") 1727), (.str (Str.ofString "scalar") 1728)].toArray 0) #[]
noncomputable def o997 (P : Params) : Obj := Obj.mk (.type "tuple") none (.seq [].toArray 0) #[]
noncomputable def o998 (P : Params) : Obj := Obj.mk .none none (.func (FuncData.mk (Str.ofString "fresh") (Str.ofString "Counter.fresh") P108 (.stmts B108) Sc108 0 [] .none .none .none .none none .none .none 0)) #[]
noncomputable def o999 (P : Params) : Obj := Obj.mk (.type "code") none (.fields [(.str (Str.ofString "fresh") 1723), (.str (Str.ofString "Counter.fresh") 1724), (.str (Str.ofString "/claim/cut.py") 1725), (.int 828 0), (.int 2 0), (.int 0 0), (.int 0 0), (.int 3 0), (.ref 994), (.bool true), (.int 181 0), (.ref 995), .none, (.ref 996), (.ref 997), (.ref 998), (.int 1729 0), (.int 828 0), (.str (Str.ofString "/claim/cut.py") 1730)].toArray) #[]
noncomputable def o1000 (P : Params) : Obj := Obj.mk (.type "function") none (.func (FuncData.mk (Str.ofString "fresh") (Str.ofString "Counter.fresh") P108 (.stmts B108) Sc108 3 [] .none .none .none (.str (Str.ofString "perlcore.counts") 1652) none (.ref 999) .none 0)) #[]
noncomputable def o1001 (P : Params) : Obj := Obj.mk (.type "tuple") none (.seq [].toArray 0) #[]
noncomputable def o1002 (P : Params) : Obj := Obj.mk .none none (.fields [].toArray) #[]
noncomputable def o1003 (P : Params) : Obj := Obj.mk (.type "tuple") none (.seq [(.str (Str.ofString "self") 1735), (.str (Str.ofString "scalar") 1736)].toArray 0) #[]
noncomputable def o1004 (P : Params) : Obj := Obj.mk (.type "tuple") none (.seq [].toArray 0) #[]
noncomputable def o1005 (P : Params) : Obj := Obj.mk .none none (.func (FuncData.mk (Str.ofString "drop") (Str.ofString "Counter.drop") P109 (.stmts B109) Sc109 0 [] .none .none .none .none none .none .none 0)) #[]
noncomputable def o1006 (P : Params) : Obj := Obj.mk (.type "code") none (.fields [(.str (Str.ofString "drop") 1732), (.str (Str.ofString "Counter.drop") 1733), (.str (Str.ofString "/claim/cut.py") 1734), (.int 833 0), (.int 2 0), (.int 0 0), (.int 0 0), (.int 3 0), (.ref 1001), (.bool true), (.int 181 0), (.ref 1002), .none, (.ref 1003), (.ref 1004), (.ref 1005), (.int 1737 0), (.int 833 0), (.str (Str.ofString "/claim/cut.py") 1738)].toArray) #[]
noncomputable def o1007 (P : Params) : Obj := Obj.mk (.type "function") none (.func (FuncData.mk (Str.ofString "drop") (Str.ofString "Counter.drop") P109 (.stmts B109) Sc109 3 [] .none .none .none (.str (Str.ofString "perlcore.counts") 1652) none (.ref 1006) .none 0)) #[]
noncomputable def o1008 (P : Params) : Obj := Obj.mk (.type "tuple") none (.seq [].toArray 0) #[]
noncomputable def o1009 (P : Params) : Obj := Obj.mk .none none (.fields [].toArray) #[]
noncomputable def o1010 (P : Params) : Obj := Obj.mk (.type "tuple") none (.seq [(.str (Str.ofString "self") 1743), (.str (Str.ofString "start") 1744)].toArray 0) #[]
noncomputable def o1011 (P : Params) : Obj := Obj.mk (.type "tuple") none (.seq [].toArray 0) #[]
noncomputable def o1012 (P : Params) : Obj := Obj.mk .none none (.func (FuncData.mk (Str.ofString "settle") (Str.ofString "Counter.settle") P110 (.stmts B110) Sc110 0 [] .none .none .none .none none .none .none 0)) #[]
noncomputable def o1013 (P : Params) : Obj := Obj.mk (.type "code") none (.fields [(.str (Str.ofString "settle") 1740), (.str (Str.ofString "Counter.settle") 1741), (.str (Str.ofString "/claim/cut.py") 1742), (.int 836 0), (.int 2 0), (.int 0 0), (.int 0 0), (.int 3 0), (.ref 1008), (.bool true), (.int 181 0), (.ref 1009), .none, (.ref 1010), (.ref 1011), (.ref 1012), (.int 1745 0), (.int 836 0), (.str (Str.ofString "/claim/cut.py") 1746)].toArray) #[]
noncomputable def o1014 (P : Params) : Obj := Obj.mk (.type "function") none (.func (FuncData.mk (Str.ofString "settle") (Str.ofString "Counter.settle") P110 (.stmts B110) Sc110 3 [] .none .none .none (.str (Str.ofString "perlcore.counts") 1652) none (.ref 1013) .none 0)) #[]
noncomputable def o1015 (P : Params) : Obj := Obj.mk (.type "tuple") none (.seq [].toArray 0) #[]
noncomputable def o1016 (P : Params) : Obj := Obj.mk .none none (.fields [].toArray) #[]
noncomputable def o1017 (P : Params) : Obj := Obj.mk (.type "tuple") none (.seq [(.str (Str.ofString "self") 1751), (.str (Str.ofString "thing") 1752)].toArray 0) #[]
noncomputable def o1018 (P : Params) : Obj := Obj.mk (.type "tuple") none (.seq [].toArray 0) #[]
noncomputable def o1019 (P : Params) : Obj := Obj.mk .none none (.func (FuncData.mk (Str.ofString "finish") (Str.ofString "Counter.finish") P111 (.stmts B111) Sc111 0 [] .none .none .none .none none .none .none 0)) #[]
noncomputable def o1020 (P : Params) : Obj := Obj.mk (.type "code") none (.fields [(.str (Str.ofString "finish") 1748), (.str (Str.ofString "Counter.finish") 1749), (.str (Str.ofString "/claim/cut.py") 1750), (.int 839 0), (.int 2 0), (.int 0 0), (.int 0 0), (.int 3 0), (.ref 1015), (.bool true), (.int 181 0), (.ref 1016), .none, (.ref 1017), (.ref 1018), (.ref 1019), (.int 1753 0), (.int 839 0), (.str (Str.ofString "/claim/cut.py") 1754)].toArray) #[]
noncomputable def o1021 (P : Params) : Obj := Obj.mk (.type "function") none (.func (FuncData.mk (Str.ofString "finish") (Str.ofString "Counter.finish") P111 (.stmts B111) Sc111 3 [] .none .none .none (.str (Str.ofString "perlcore.counts") 1652) none (.ref 1020) .none 0)) #[]
noncomputable def o1022 (P : Params) : Obj := Obj.mk (.type "tuple") none (.seq [].toArray 0) #[]
noncomputable def o1023 (P : Params) : Obj := Obj.mk .none none (.fields [].toArray) #[]
noncomputable def o1024 (P : Params) : Obj := Obj.mk (.type "tuple") none (.seq [(.str (Str.ofString "self") 1759), (.str (Str.ofString "thing") 1760)].toArray 0) #[]
noncomputable def o1025 (P : Params) : Obj := Obj.mk (.type "tuple") none (.seq [].toArray 0) #[]
noncomputable def o1026 (P : Params) : Obj := Obj.mk .none none (.func (FuncData.mk (Str.ofString "free") (Str.ofString "Counter.free") P112 (.stmts B112) Sc112 0 [] .none .none .none .none none .none .none 0)) #[]
noncomputable def o1027 (P : Params) : Obj := Obj.mk (.type "code") none (.fields [(.str (Str.ofString "free") 1756), (.str (Str.ofString "Counter.free") 1757), (.str (Str.ofString "/claim/cut.py") 1758), (.int 842 0), (.int 2 0), (.int 0 0), (.int 0 0), (.int 3 0), (.ref 1022), (.bool true), (.int 181 0), (.ref 1023), .none, (.ref 1024), (.ref 1025), (.ref 1026), (.int 1761 0), (.int 842 0), (.str (Str.ofString "/claim/cut.py") 1762)].toArray) #[]
noncomputable def o1028 (P : Params) : Obj := Obj.mk (.type "function") none (.func (FuncData.mk (Str.ofString "free") (Str.ofString "Counter.free") P112 (.stmts B112) Sc112 3 [] .none .none .none (.str (Str.ofString "perlcore.counts") 1652) none (.ref 1027) .none 0)) #[]
noncomputable def o1029 (P : Params) : Obj := Obj.mk (.type "tuple") none (.seq [(.str (Str.ofString "destroy") 1764), (.str (Str.ofString "empties") 1765), (.str (Str.ofString "heap") 1766), (.str (Str.ofString "places") 1767)].toArray 0) #[]
noncomputable def o1030 (P : Params) : Obj := Obj.mk (.type "dict") none (.dict ([E P "__module__" 1661 (.str (Str.ofString "perlcore.counts") 1652), E P "__firstlineno__" 1665 (.int 783 1664), E P "__init__" 1674 (.ref 953), E P "hold" 1682 (.ref 960), E P "let_go" 1690 (.ref 967), E P "note" 1698 (.ref 974), E P "take" 1706 (.ref 981), E P "put_off" 1712 (.ref 986), E P "store" 1722 (.ref 993), E P "fresh" 1731 (.ref 1000), E P "drop" 1739 (.ref 1007), E P "settle" 1747 (.ref 1014), E P "finish" 1755 (.ref 1021), E P "free" 1763 (.ref 1028), E P "__static_attributes__" 1768 (.ref 1029), E P "__dict__" 1770 (.ref 1032), E P "__weakref__" 1772 (.ref 1033), E P "__doc__" 1773 .none] : List DictEntry).toArray 4) #[]
noncomputable def o1031 (P : Params) : Obj := Obj.mk (.type "type") none (.cls (ClassData.mk (Str.ofString "Counter") [(.type "object")] [(.ref 1031), (.type "object")] 1030 (Str.ofString "Counter") true [] [] false none false)) [none, none, (some (.str (Str.ofString "Counter") 1654)), (some (.str (Str.ofString "Counter") 1662)), (some (.builtin "object.__new__")), (some (.bool true))].toArray
noncomputable def o1032 (P : Params) : Obj := Obj.mk (.type "getset_descriptor") none (.fields [(.str (Str.ofString "__dict__") 1769), (.ref 1031), (.builtin "function.__dict__"), (.builtin "function.__dict__#set")].toArray) #[]
noncomputable def o1033 (P : Params) : Obj := Obj.mk (.type "getset_descriptor") none (.fields [(.str (Str.ofString "__weakref__") 1771), (.ref 1031), (.builtin "ExceptionGroup.__weakref__"), .none].toArray) #[]
noncomputable def o1034 (P : Params) : Obj := Obj.mk (.type "super") none (.fields [(.ref 1031), (.ref 1031), (.ref 1031)].toArray) #[]
noncomputable def o1035 (P : Params) : Obj := Obj.mk (.type "builtin_function_or_method") none (.fields [(.builtin "object.__init_subclass__"), (.ref 1031)].toArray) #[]
noncomputable def T25p0 (P : Params) : BT := (((((((((((((((((((((((((((((((((((((((((T24 P).ins 3 (o3v25 P)).ins 12 (o12v25 P)).ins 940 (o940 P)).ins 941 (o941 P)).ins 942 (o942 P)).ins 943 (o943 P)).ins 944 (o944 P)).ins 945 (o945 P)).ins 946 (o946 P)).ins 947 (o947 P)).ins 948 (o948 P)).ins 949 (o949 P)).ins 950 (o950 P)).ins 951 (o951 P)).ins 952 (o952 P)).ins 953 (o953 P)).ins 954 (o954 P)).ins 955 (o955 P)).ins 956 (o956 P)).ins 957 (o957 P)).ins 958 (o958 P)).ins 959 (o959 P)).ins 960 (o960 P)).ins 961 (o961 P)).ins 962 (o962 P)).ins 963 (o963 P)).ins 964 (o964 P)).ins 965 (o965 P)).ins 966 (o966 P)).ins 967 (o967 P)).ins 968 (o968 P)).ins 969 (o969 P)).ins 970 (o970 P)).ins 971 (o971 P)).ins 972 (o972 P)).ins 973 (o973 P)).ins 974 (o974 P)).ins 975 (o975 P)).ins 976 (o976 P)).ins 977 (o977 P))
noncomputable def T25p1 (P : Params) : BT := (((((((((((((((((((((((((((((((((((((((((T25p0 P).ins 978 (o978 P)).ins 979 (o979 P)).ins 980 (o980 P)).ins 981 (o981 P)).ins 982 (o982 P)).ins 983 (o983 P)).ins 984 (o984 P)).ins 985 (o985 P)).ins 986 (o986 P)).ins 987 (o987 P)).ins 988 (o988 P)).ins 989 (o989 P)).ins 990 (o990 P)).ins 991 (o991 P)).ins 992 (o992 P)).ins 993 (o993 P)).ins 994 (o994 P)).ins 995 (o995 P)).ins 996 (o996 P)).ins 997 (o997 P)).ins 998 (o998 P)).ins 999 (o999 P)).ins 1000 (o1000 P)).ins 1001 (o1001 P)).ins 1002 (o1002 P)).ins 1003 (o1003 P)).ins 1004 (o1004 P)).ins 1005 (o1005 P)).ins 1006 (o1006 P)).ins 1007 (o1007 P)).ins 1008 (o1008 P)).ins 1009 (o1009 P)).ins 1010 (o1010 P)).ins 1011 (o1011 P)).ins 1012 (o1012 P)).ins 1013 (o1013 P)).ins 1014 (o1014 P)).ins 1015 (o1015 P)).ins 1016 (o1016 P)).ins 1017 (o1017 P))
noncomputable def T25 (P : Params) : BT := (((((((((((((((((((T25p1 P).ins 1018 (o1018 P)).ins 1019 (o1019 P)).ins 1020 (o1020 P)).ins 1021 (o1021 P)).ins 1022 (o1022 P)).ins 1023 (o1023 P)).ins 1024 (o1024 P)).ins 1025 (o1025 P)).ins 1026 (o1026 P)).ins 1027 (o1027 P)).ins 1028 (o1028 P)).ins 1029 (o1029 P)).ins 1030 (o1030 P)).ins 1031 (o1031 P)).ins 1032 (o1032 P)).ins 1033 (o1033 P)).ins 1034 (o1034 P)).ins 1035 (o1035 P))
@[reducible] noncomputable def sts24 : List Stmt := (bodyE.drop 131).take 1
theorem q24 : ∀ w : World, (fun os => sgT w 578 ⟨T24 w.params, 940, {}, ⟨[]⟩, {}, 1654, os⟩ (thr sts24 ⟨782, 0, 782, 8⟩)) = fun os => some (Flow.next, ⟨T25 w.params, 1036, {}, ⟨[]⟩, {}, 1776, os⟩, cE, ⟨783, 0, 843, 16⟩) := fun w => by kernel_rfl
noncomputable def d3v26 (P : Params) : List DictEntry := [E P "Limits" 1825 (.ref 1053), E P "_law_patterns" 1833 (.ref 1064), E P "_law_flags" 1839 (.ref 1071), E P "_law_dice" 1847 (.ref 1078), E P "_law_due" 1853 (.ref 1083)]
noncomputable def n3v26 (P : Params) : List DictEntry := d3v1 P ++ (d3v2 P ++ (d3v3 P ++ (d3v4 P ++ (d3v5 P ++ (d3v6 P ++ (d3v7 P ++ (d3v8 P ++ (d3v9 P ++ (d3v10 P ++ (d3v11 P ++ (d3v12 P ++ (d3v13 P ++ (d3v14 P ++ (d3v15 P ++ (d3v16 P ++ (d3v17 P ++ (d3v18 P ++ (d3v19 P ++ (d3v20 P ++ (d3v21 P ++ (d3v22 P ++ (d3v23 P ++ (d3v24 P ++ (d3v25 P ++ d3v26 P))))))))))))))))))))))))
noncomputable def o3v26 (P : Params) : Obj := Obj.mk (.type "dict") none (.dict ([E P "__name__" 165 (.str (Str.ofString "law_qz0143_01") 1826), E P "__doc__" 166 .none, E P "__package__" 167 .none, E P "__loader__" 168 (.builtin "__main__.__loader__#opaque"), E P "__spec__" 169 .none, E P "__annotations__" 170 (.ref 6), E P "__builtins__" 171 (.ref 4), E P "__file__" 173 (.str (Str.ofString "/claim/cut.py") 172), E P "__cached__" 174 .none] ++ n3v26 P : List DictEntry).toArray 130) #[]
noncomputable def d12v26 : List Value := [(.int 845 0), (.int 0 0), (.ref 1041), (.int 854 0), (.int 0 0), (.ref 1063), (.int 856 0), (.int 0 0), (.ref 1070), (.int 858 0), (.int 0 0), (.ref 1077), (.int 863 0), (.int 0 0), (.ref 1082)]
noncomputable def n12v26 : List Value := d12v1 ++ (d12v2 ++ (d12v3 ++ (d12v4 ++ (d12v5 ++ (d12v6 ++ (d12v7 ++ (d12v8 ++ (d12v9 ++ (d12v10 ++ (d12v11 ++ (d12v12 ++ (d12v13 ++ (d12v14 ++ (d12v15 ++ (d12v16 ++ (d12v17 ++ (d12v18 ++ (d12v19 ++ (d12v20 ++ (d12v21 ++ (d12v22 ++ (d12v23 ++ (d12v24 ++ (d12v25 ++ d12v26))))))))))))))))))))))))
noncomputable def o12v26 (P : Params) : Obj := Obj.mk .none none (.fields (n12v26).toArray) #[]
noncomputable def o1036 (P : Params) : Obj := Obj.mk (.type "tuple") none (.seq [].toArray 0) #[]
noncomputable def o1037 (P : Params) : Obj := Obj.mk (.type "builtin_function_or_method") none (.fields [(.builtin "type.__prepare__"), (.type "type")].toArray) #[]
noncomputable def o1038 (P : Params) : Obj := Obj.mk (.type "dict") none (.dict ([E P "__module__" 1785 (.str (Str.ofString "perlcore.limits") 1776), E P "__qualname__" 1787 (.str (Str.ofString "Limits") 1786), E P "__firstlineno__" 1789 (.int 845 1788), E P "__init__" 1812 (.ref 1050), E P "__static_attributes__" 1818 (.ref 1051)] : List DictEntry).toArray 5) #[]
noncomputable def o1039 (P : Params) : Obj := Obj.mk (.type "tuple") none (.seq [].toArray 0) #[]
noncomputable def o1040 (P : Params) : Obj := Obj.mk .none none (.fields [(.int 847 0), (.int 4 0), (.ref 1049)].toArray) #[]
noncomputable def o1041 (P : Params) : Obj := Obj.mk (.type "code") none (.fields [(.str (Str.ofString "Limits") 1780), (.str (Str.ofString "Limits") 1781), (.str (Str.ofString "/claim/cut.py") 1782), (.int 845 0), (.int 0 0), (.int 0 0), (.int 0 0), (.int 0 0), (.ref 1039), (.bool false), (.int 181 0), (.ref 1040), .none, .none, .none, .none, (.int 1783 0), (.int 845 0), (.str (Str.ofString "/claim/cut.py") 1784)].toArray) #[]
noncomputable def o1042 (P : Params) : Obj := Obj.mk (.type "frame") none .plain [(some (.ref 1041)), (some (.ref 3)), (some (.ref 1038)), none, (some (.str (Str.ofString "perlcore.limits") 1776)), none, (some (.ref 0))].toArray
noncomputable def o1043 (P : Params) : Obj := Obj.mk (.type "tuple") none (.seq [(.int 64 1790), (.int 50 1791), (.int 1000000 1794), (.int 100000 1797), (.int 10000 1800)].toArray 0) #[]
noncomputable def o1044 (P : Params) : Obj := Obj.mk (.type "tuple") none (.seq [].toArray 0) #[]
noncomputable def o1045 (P : Params) : Obj := Obj.mk .none none (.fields [].toArray) #[]
noncomputable def o1046 (P : Params) : Obj := Obj.mk (.type "tuple") none (.seq [(.str (Str.ofString "self") 1804), (.str (Str.ofString "width") 1805), (.str (Str.ofString "depth") 1806), (.str (Str.ofString "steps") 1807), (.str (Str.ofString "text") 1808), (.str (Str.ofString "items") 1809)].toArray 0) #[]
noncomputable def o1047 (P : Params) : Obj := Obj.mk (.type "tuple") none (.seq [].toArray 0) #[]
noncomputable def o1048 (P : Params) : Obj := Obj.mk .none none (.func (FuncData.mk (Str.ofString "__init__") (Str.ofString "Limits.__init__") P113 (.stmts B113) Sc113 0 [] .none .none .none .none none .none .none 0)) #[]
noncomputable def o1049 (P : Params) : Obj := Obj.mk (.type "code") none (.fields [(.str (Str.ofString "__init__") 1801), (.str (Str.ofString "Limits.__init__") 1802), (.str (Str.ofString "/claim/cut.py") 1803), (.int 847 0), (.int 6 0), (.int 0 0), (.int 0 0), (.int 3 0), (.ref 1044), (.bool true), (.int 181 0), (.ref 1045), .none, (.ref 1046), (.ref 1047), (.ref 1048), (.int 1810 0), (.int 847 0), (.str (Str.ofString "/claim/cut.py") 1811)].toArray) #[]
noncomputable def o1050 (P : Params) : Obj := Obj.mk (.type "function") none (.func (FuncData.mk (Str.ofString "__init__") (Str.ofString "Limits.__init__") P113 (.stmts B113) Sc113 3 [] (.ref 1043) .none .none (.str (Str.ofString "perlcore.limits") 1776) none (.ref 1049) .none 0)) #[]
noncomputable def o1051 (P : Params) : Obj := Obj.mk (.type "tuple") none (.seq [(.str (Str.ofString "depth") 1813), (.str (Str.ofString "items") 1814), (.str (Str.ofString "steps") 1815), (.str (Str.ofString "text") 1816), (.str (Str.ofString "width") 1817)].toArray 0) #[]
noncomputable def o1052 (P : Params) : Obj := Obj.mk (.type "dict") none (.dict ([E P "__module__" 1785 (.str (Str.ofString "perlcore.limits") 1776), E P "__firstlineno__" 1789 (.int 845 1788), E P "__init__" 1812 (.ref 1050), E P "__static_attributes__" 1818 (.ref 1051), E P "__dict__" 1820 (.ref 1054), E P "__weakref__" 1822 (.ref 1055), E P "__doc__" 1823 .none] : List DictEntry).toArray 4) #[]
noncomputable def o1053 (P : Params) : Obj := Obj.mk (.type "type") none (.cls (ClassData.mk (Str.ofString "Limits") [(.type "object")] [(.ref 1053), (.type "object")] 1052 (Str.ofString "Limits") true [] [] false none false)) [none, none, (some (.str (Str.ofString "Limits") 1778)), (some (.str (Str.ofString "Limits") 1786)), (some (.builtin "object.__new__")), (some (.bool true))].toArray
noncomputable def o1054 (P : Params) : Obj := Obj.mk (.type "getset_descriptor") none (.fields [(.str (Str.ofString "__dict__") 1819), (.ref 1053), (.builtin "function.__dict__"), (.builtin "function.__dict__#set")].toArray) #[]
noncomputable def o1055 (P : Params) : Obj := Obj.mk (.type "getset_descriptor") none (.fields [(.str (Str.ofString "__weakref__") 1821), (.ref 1053), (.builtin "ExceptionGroup.__weakref__"), .none].toArray) #[]
noncomputable def o1056 (P : Params) : Obj := Obj.mk (.type "super") none (.fields [(.ref 1053), (.ref 1053), (.ref 1053)].toArray) #[]
noncomputable def o1057 (P : Params) : Obj := Obj.mk (.type "builtin_function_or_method") none (.fields [(.builtin "object.__init_subclass__"), (.ref 1053)].toArray) #[]
noncomputable def o1058 (P : Params) : Obj := Obj.mk (.type "tuple") none (.seq [].toArray 0) #[]
noncomputable def o1059 (P : Params) : Obj := Obj.mk .none none (.fields [].toArray) #[]
noncomputable def o1060 (P : Params) : Obj := Obj.mk (.type "tuple") none (.seq [].toArray 0) #[]
noncomputable def o1061 (P : Params) : Obj := Obj.mk (.type "tuple") none (.seq [].toArray 0) #[]
noncomputable def o1062 (P : Params) : Obj := Obj.mk .none none (.func (FuncData.mk (Str.ofString "_law_patterns") (Str.ofString "_law_patterns") P114 (.stmts B114) Sc114 0 [] .none .none .none .none none .none .none 0)) #[]
noncomputable def o1063 (P : Params) : Obj := Obj.mk (.type "code") none (.fields [(.str (Str.ofString "_law_patterns") 1828), (.str (Str.ofString "_law_patterns") 1829), (.str (Str.ofString "/claim/cut.py") 1830), (.int 854 0), (.int 0 0), (.int 0 0), (.int 0 0), (.int 3 0), (.ref 1058), (.bool true), (.int 181 0), (.ref 1059), .none, (.ref 1060), (.ref 1061), (.ref 1062), (.int 1831 0), (.int 854 0), (.str (Str.ofString "/claim/cut.py") 1832)].toArray) #[]
noncomputable def o1064 (P : Params) : Obj := Obj.mk (.type "function") none (.func (FuncData.mk (Str.ofString "_law_patterns") (Str.ofString "_law_patterns") P114 (.stmts B114) Sc114 3 [] .none .none .none (.str (Str.ofString "law_qz0143_01") 1826) none (.ref 1063) .none 0)) #[]
noncomputable def o1065 (P : Params) : Obj := Obj.mk (.type "tuple") none (.seq [].toArray 0) #[]
noncomputable def o1066 (P : Params) : Obj := Obj.mk .none none (.fields [].toArray) #[]
noncomputable def o1067 (P : Params) : Obj := Obj.mk (.type "tuple") none (.seq [].toArray 0) #[]
noncomputable def o1068 (P : Params) : Obj := Obj.mk (.type "tuple") none (.seq [].toArray 0) #[]
noncomputable def o1069 (P : Params) : Obj := Obj.mk .none none (.func (FuncData.mk (Str.ofString "_law_flags") (Str.ofString "_law_flags") P115 (.stmts B115) Sc115 0 [] .none .none .none .none none .none .none 0)) #[]
noncomputable def o1070 (P : Params) : Obj := Obj.mk (.type "code") none (.fields [(.str (Str.ofString "_law_flags") 1834), (.str (Str.ofString "_law_flags") 1835), (.str (Str.ofString "/claim/cut.py") 1836), (.int 856 0), (.int 0 0), (.int 0 0), (.int 0 0), (.int 3 0), (.ref 1065), (.bool true), (.int 181 0), (.ref 1066), .none, (.ref 1067), (.ref 1068), (.ref 1069), (.int 1837 0), (.int 856 0), (.str (Str.ofString "/claim/cut.py") 1838)].toArray) #[]
noncomputable def o1071 (P : Params) : Obj := Obj.mk (.type "function") none (.func (FuncData.mk (Str.ofString "_law_flags") (Str.ofString "_law_flags") P115 (.stmts B115) Sc115 3 [] .none .none .none (.str (Str.ofString "law_qz0143_01") 1826) none (.ref 1070) .none 0)) #[]
noncomputable def o1072 (P : Params) : Obj := Obj.mk (.type "tuple") none (.seq [].toArray 0) #[]
noncomputable def o1073 (P : Params) : Obj := Obj.mk .none none (.fields [].toArray) #[]
noncomputable def o1074 (P : Params) : Obj := Obj.mk (.type "tuple") none (.seq [(.str (Str.ofString "cup") 1843), (.str (Str.ofString "many") 1844)].toArray 0) #[]
noncomputable def o1075 (P : Params) : Obj := Obj.mk (.type "tuple") none (.seq [].toArray 0) #[]
noncomputable def o1076 (P : Params) : Obj := Obj.mk .none none (.func (FuncData.mk (Str.ofString "_law_dice") (Str.ofString "_law_dice") P116 (.stmts B116) Sc116 0 [] .none .none .none .none none .none .none 0)) #[]
noncomputable def o1077 (P : Params) : Obj := Obj.mk (.type "code") none (.fields [(.str (Str.ofString "_law_dice") 1840), (.str (Str.ofString "_law_dice") 1841), (.str (Str.ofString "/claim/cut.py") 1842), (.int 858 0), (.int 2 0), (.int 0 0), (.int 0 0), (.int 3 0), (.ref 1072), (.bool true), (.int 181 0), (.ref 1073), .none, (.ref 1074), (.ref 1075), (.ref 1076), (.int 1845 0), (.int 858 0), (.str (Str.ofString "/claim/cut.py") 1846)].toArray) #[]
noncomputable def o1078 (P : Params) : Obj := Obj.mk (.type "function") none (.func (FuncData.mk (Str.ofString "_law_dice") (Str.ofString "_law_dice") P116 (.stmts B116) Sc116 3 [] .none .none .none (.str (Str.ofString "law_qz0143_01") 1826) none (.ref 1077) .none 0)) #[]
noncomputable def o1079 (P : Params) : Obj := Obj.mk (.type "tuple") none (.seq [].toArray 0) #[]
noncomputable def o1080 (P : Params) : Obj := Obj.mk .none none (.fields [].toArray) #[]
noncomputable def o1081 (P : Params) : Obj := Obj.mk .none none (.func (FuncData.mk (Str.ofString "_law_due") (Str.ofString "_law_due") P117 (.stmts B117) Sc117 0 [] .none .none .none .none none .none .none 0)) #[]
noncomputable def o1082 (P : Params) : Obj := Obj.mk (.type "code") none (.fields [(.str (Str.ofString "_law_due") 1848), (.str (Str.ofString "_law_due") 1849), (.str (Str.ofString "/claim/cut.py") 1850), (.int 863 0), (.int 1 0), (.int 0 0), (.int 0 0), (.int 3 0), (.ref 1079), (.bool true), (.int 181 0), (.ref 1080), .none, .none, .none, (.ref 1081), (.int 1851 0), (.int 863 0), (.str (Str.ofString "/claim/cut.py") 1852)].toArray) #[]
noncomputable def o1083 (P : Params) : Obj := Obj.mk (.type "function") none (.func (FuncData.mk (Str.ofString "_law_due") (Str.ofString "_law_due") P117 (.stmts B117) Sc117 3 [] .none .none .none (.str (Str.ofString "law_qz0143_01") 1826) none (.ref 1082) .none 0)) #[]
noncomputable def T26p0 (P : Params) : BT := (((((((((((((((((((((((((((((((((((((((((T25 P).ins 3 (o3v26 P)).ins 12 (o12v26 P)).ins 1036 (o1036 P)).ins 1037 (o1037 P)).ins 1038 (o1038 P)).ins 1039 (o1039 P)).ins 1040 (o1040 P)).ins 1041 (o1041 P)).ins 1042 (o1042 P)).ins 1043 (o1043 P)).ins 1044 (o1044 P)).ins 1045 (o1045 P)).ins 1046 (o1046 P)).ins 1047 (o1047 P)).ins 1048 (o1048 P)).ins 1049 (o1049 P)).ins 1050 (o1050 P)).ins 1051 (o1051 P)).ins 1052 (o1052 P)).ins 1053 (o1053 P)).ins 1054 (o1054 P)).ins 1055 (o1055 P)).ins 1056 (o1056 P)).ins 1057 (o1057 P)).ins 1058 (o1058 P)).ins 1059 (o1059 P)).ins 1060 (o1060 P)).ins 1061 (o1061 P)).ins 1062 (o1062 P)).ins 1063 (o1063 P)).ins 1064 (o1064 P)).ins 1065 (o1065 P)).ins 1066 (o1066 P)).ins 1067 (o1067 P)).ins 1068 (o1068 P)).ins 1069 (o1069 P)).ins 1070 (o1070 P)).ins 1071 (o1071 P)).ins 1072 (o1072 P)).ins 1073 (o1073 P))
noncomputable def T26 (P : Params) : BT := (((((((((((T26p0 P).ins 1074 (o1074 P)).ins 1075 (o1075 P)).ins 1076 (o1076 P)).ins 1077 (o1077 P)).ins 1078 (o1078 P)).ins 1079 (o1079 P)).ins 1080 (o1080 P)).ins 1081 (o1081 P)).ins 1082 (o1082 P)).ins 1083 (o1083 P))
@[reducible] noncomputable def sts25 : List Stmt := (bodyE.drop 132).take 7
theorem q25 : ∀ w : World, (fun os => sgT w 385 ⟨T25 w.params, 1036, {}, ⟨[]⟩, {}, 1776, os⟩ (thr sts25 ⟨783, 0, 843, 16⟩)) = fun os => some (Flow.next, ⟨T26 w.params, 1084, {}, ⟨[]⟩, {}, 1854, os⟩, cE, ⟨863, 0, 864, 88⟩) := fun w => by kernel_rfl
noncomputable def o3v27 (P : Params) : Obj := Obj.mk (.type "dict") none (.dict ([E P "__name__" 165 (.str (Str.ofString "law_qz0143_01") 1826), E P "__doc__" 166 .none, E P "__package__" 167 .none, E P "__loader__" 168 (.builtin "__main__.__loader__#opaque"), E P "__spec__" 169 .none, E P "__annotations__" 170 (.ref 6), E P "__builtins__" 171 (.ref 4), E P "__file__" 173 (.str (Str.ofString "/claim/cut.py") 172), E P "__cached__" 174 .none, E P "_wall" 193 (.ref 21), E P "Thing" 229 (.ref 38), E P "Scalar" 256 (.ref 59), E P "Ref" 287 (.ref 79), E P "Heap" 364 (.ref 142), E P "value_of" 373 (.ref 153), E P "drop_member" 384 (.ref 160), E P "key_place" 396 (.ref 167), E P "delete_key" 405 (.ref 174), E P "LAST_PATTERN" 410 (.ref 175), E P "last_pattern" 417 (.ref 182), E P "save_match" 424 (.ref 189), E P "set_match" 433 (.ref 196), E P "let_go_of" 441 (.ref 203), E P "undo_scalar" 449 (.ref 210), E P "undo_array" 457 (.ref 217), E P "undo_hash" 465 (.ref 224), E P "undo_code" 473 (.ref 231), E P "undo_elem" 486 (.ref 238), E P "undo_helem" 498 (.ref 245), E P "undo_tied" 510 (.ref 252), E P "undo_pad" 518 (.ref 259), E P "undo_slot" 526 (.ref 266), E P "undo_match" 534 (.ref 273), E P "undo_package" 542 (.ref 280), E P "UNDOERS" 567 (.ref 281), E P "leave" 576 (.ref 288), E P "PerlError" 607 (.ref 305), E P "Die" 632 (.ref 325), E P "BadPattern" 658 (.ref 344), E P "ONE_SIGN" 664 (.ref 347), E P "Program" 699 (.ref 364), E P "RowMaker" 743 (.ref 399), E P "add_node" 754 (.ref 410), E P "add_branches" 766 (.ref 417), E P "add_atomic" 775 (.ref 424), E P "add_repeats" 788 (.ref 431), E P "add_loop" 803 (.ref 438), E P "add_look" 819 (.ref 445), E P "compile_tree" 829 (.ref 452), E P "POSIX_RANGES" 916 (.ref 453), E P "is_word_sign" 923 (.ref 502), E P "posix_items" 929 (.ref 507), E P "PLAIN_ESCAPES" 950 (.ref 508), E P "OCTAL_FIGURES" 952 (.str (Str.ofString "01234567") 951), E P "HEX_FIGURES" 954 (.str (Str.ofString "0123456789abcdef") 953), E P "CLASS_LETTERS" 956 (.str (Str.ofString "dDwWsShHvV") 955), E P "POSIX_SIGNS" 958 (.str (Str.ofString "abcdefghijklmnopqrstuvwxyz^") 957), E P "MOST_CODE" 960 (.int 1114111 959), E P "PatternText" 1011 (.ref 539), E P "run_of" 1021 (.ref 550), E P "number_of_run" 1031 (.ref 557), E P "until_sign" 1041 (.ref 564), E P "sign_of_code" 1049 (.ref 571), E P "read_hex_sign" 1055 (.ref 576), E P "read_octal_sign" 1061 (.ref 581), E P "read_named_sign" 1067 (.ref 586), E P "read_plain_escape" 1075 (.ref 593), E P "read_control" 1083 (.ref 600), E P "signs_end" 1092 (.ref 607), E P "posix_end" 1101 (.ref 614), E P "read_posix" 1113 (.ref 621), E P "read_member" 1124 (.ref 628), E P "is_one_sign" 1131 (.ref 635), E P "read_range_end" 1142 (.ref 642), E P "read_set" 1156 (.ref 649), E P "FIGURES" 1160 (.str (Str.ofString "0123456789") 1159), E P "MOST_COUNT" 1162 (.int 32766 1161), E P "COUNT_SIGNS" 1177 (.ref 650), E P "count_groups" 1187 (.ref 660), E P "behind_set" 1196 (.ref 667), E P "behind_posix" 1205 (.ref 674), E P "opens_capture" 1212 (.ref 681), E P "is_name_text" 1218 (.ref 686), E P "braces_count" 1229 (.ref 693), E P "take_count" 1241 (.ref 700), E P "read_name" 1251 (.ref 707), E P "speak_of" 1260 (.ref 714), E P "read_named_back" 1270 (.ref 721), E P "read_numbered_back" 1283 (.ref 728), E P "width_of" 1289 (.ref 733), E P "FLAG_LETTERS" 1293 (.str (Str.ofString "imsx") 1292), E P "MOST_NESTED" 1295 (.int 40 1294), E P "LOOKS" 1300 (.ref 738), E P "NAME_SIGNS" 1307 (.ref 742), E P "skip_unseen" 1316 (.ref 749), E P "read_flags" 1322 (.ref 754), E P "read_inline" 1332 (.ref 761), E P "read_alternation" 1342 (.ref 768), E P "read_branch" 1352 (.ref 775), E P "read_atom" 1361 (.ref 782), E P "read_counted" 1373 (.ref 789), E P "read_inner" 1383 (.ref 796), E P "read_capture" 1394 (.ref 803), E P "read_look" 1407 (.ref 810), E P "read_group" 1421 (.ref 817), E P "is_sign_told" 1428 (.ref 824), E P "read_escape" 1441 (.ref 831), E P "parse_pattern" 1447 (.ref 836), E P "compile_pattern" 1460 (.ref 843), E P "Frame" 1501 (.ref 860), E P "Run" 1551 (.ref 881), E P "MOST_PILED" 1555 (.int 880 1554), E P "LEAF_COST" 1557 (.int 10 1556), E P "BRACKET_COST" 1559 (.int 10 1558), E P "PATTERN_COST" 1561 (.int 400 1560), E P "UNTOLD" 1564 (.ref 886), E P "CallFrame" 1596 (.ref 903), E P "check_pattern" 1606 (.ref 912), E P "KEPT_SIGNS" 1611 (.ref 913), E P "MADE_SIGNS" 1613 (.int 10 1612), E P "own_flags" 1619 (.ref 918), E P "program_for" 1630 (.ref 925), E P "keep_program" 1641 (.ref 932), E P "chosen_program" 1651 (.ref 939), E P "Counter" 1775 (.ref 1031), E P "Limits" 1825 (.ref 1053), E P "_law_patterns" 1833 (.ref 1064), E P "_law_flags" 1839 (.ref 1071), E P "_law_dice" 1847 (.ref 1078), E P "_law_due" 1853 (.ref 1083), E P "_law_asked" 1862 (.ref 1090), E P "law" 1882 (.ref 1097)] : List DictEntry).toArray 132) #[]
noncomputable def d12v27 : List Value := [(.int 865 0), (.int 0 0), (.ref 1089), (.int 870 0), (.int 0 0), (.ref 1096)]
noncomputable def n12v27 : List Value := d12v1 ++ (d12v2 ++ (d12v3 ++ (d12v4 ++ (d12v5 ++ (d12v6 ++ (d12v7 ++ (d12v8 ++ (d12v9 ++ (d12v10 ++ (d12v11 ++ (d12v12 ++ (d12v13 ++ (d12v14 ++ (d12v15 ++ (d12v16 ++ (d12v17 ++ (d12v18 ++ (d12v19 ++ (d12v20 ++ (d12v21 ++ (d12v22 ++ (d12v23 ++ (d12v24 ++ (d12v25 ++ (d12v26 ++ d12v27)))))))))))))))))))))))))
noncomputable def o12v27 (P : Params) : Obj := Obj.mk .none none (.fields (n12v27).toArray) #[]
noncomputable def o1084 (P : Params) : Obj := Obj.mk (.type "tuple") none (.seq [].toArray 0) #[]
noncomputable def o1085 (P : Params) : Obj := Obj.mk .none none (.fields [].toArray) #[]
noncomputable def o1086 (P : Params) : Obj := Obj.mk (.type "tuple") none (.seq [(.str (Str.ofString "run") 1857), (.str (Str.ofString "pattern") 1858), (.str (Str.ofString "flags") 1859)].toArray 0) #[]
noncomputable def o1087 (P : Params) : Obj := Obj.mk (.type "tuple") none (.seq [].toArray 0) #[]
noncomputable def o1088 (P : Params) : Obj := Obj.mk .none none (.func (FuncData.mk (Str.ofString "_law_asked") (Str.ofString "_law_asked") P118 (.stmts B118) Sc118 0 [] .none .none .none .none none .none .none 0)) #[]
noncomputable def o1089 (P : Params) : Obj := Obj.mk (.type "code") none (.fields [(.str (Str.ofString "_law_asked") 1854), (.str (Str.ofString "_law_asked") 1855), (.str (Str.ofString "/claim/cut.py") 1856), (.int 865 0), (.int 3 0), (.int 0 0), (.int 0 0), (.int 3 0), (.ref 1084), (.bool true), (.int 181 0), (.ref 1085), .none, (.ref 1086), (.ref 1087), (.ref 1088), (.int 1860 0), (.int 865 0), (.str (Str.ofString "/claim/cut.py") 1861)].toArray) #[]
noncomputable def o1090 (P : Params) : Obj := Obj.mk (.type "function") none (.func (FuncData.mk (Str.ofString "_law_asked") (Str.ofString "_law_asked") P118 (.stmts B118) Sc118 3 [] .none .none .none (.str (Str.ofString "law_qz0143_01") 1826) none (.ref 1089) .none 0)) #[]
noncomputable def o1091 (P : Params) : Obj := Obj.mk (.type "tuple") none (.seq [].toArray 0) #[]
noncomputable def o1092 (P : Params) : Obj := Obj.mk .none none (.fields [].toArray) #[]
noncomputable def o1093 (P : Params) : Obj := Obj.mk (.type "tuple") none (.seq [(.str (Str.ofString "script") 1866), (.str (Str.ofString "cup") 1867), (.str (Str.ofString "heap") 1868), (.str (Str.ofString "run") 1869), (.str (Str.ofString "scopes") 1870), (.str (Str.ofString "now") 1871), (.str (Str.ofString "seen") 1872), (.str (Str.ofString "turn") 1873), (.str (Str.ofString "way") 1874), (.str (Str.ofString "mark") 1875), (.str (Str.ofString "at") 1876), (.str (Str.ofString "flags") 1877), (.str (Str.ofString "program") 1878), (.str (Str.ofString "key") 1879)].toArray 0) #[]
noncomputable def o1094 (P : Params) : Obj := Obj.mk (.type "tuple") none (.seq [].toArray 0) #[]
noncomputable def o1095 (P : Params) : Obj := Obj.mk .none none (.func (FuncData.mk (Str.ofString "law") (Str.ofString "law") P119 (.stmts B119) Sc119 0 [] .none .none .none .none none .none .none 0)) #[]
noncomputable def o1096 (P : Params) : Obj := Obj.mk (.type "code") none (.fields [(.str (Str.ofString "law") 1863), (.str (Str.ofString "law") 1864), (.str (Str.ofString "/claim/cut.py") 1865), (.int 870 0), (.int 1 0), (.int 0 0), (.int 0 0), (.int 3 0), (.ref 1091), (.bool true), (.int 181 0), (.ref 1092), .none, (.ref 1093), (.ref 1094), (.ref 1095), (.int 1880 0), (.int 870 0), (.str (Str.ofString "/claim/cut.py") 1881)].toArray) #[]
noncomputable def o1097 (P : Params) : Obj := Obj.mk (.type "function") none (.func (FuncData.mk (Str.ofString "law") (Str.ofString "law") P119 (.stmts B119) Sc119 3 [] .none .none .none (.str (Str.ofString "law_qz0143_01") 1826) none (.ref 1096) .none 0)) #[]
noncomputable def T27 (P : Params) : BT := (((((((((((((((((T26 P).ins 3 (o3v27 P)).ins 12 (o12v27 P)).ins 1084 (o1084 P)).ins 1085 (o1085 P)).ins 1086 (o1086 P)).ins 1087 (o1087 P)).ins 1088 (o1088 P)).ins 1089 (o1089 P)).ins 1090 (o1090 P)).ins 1091 (o1091 P)).ins 1092 (o1092 P)).ins 1093 (o1093 P)).ins 1094 (o1094 P)).ins 1095 (o1095 P)).ins 1096 (o1096 P)).ins 1097 (o1097 P))
@[reducible] noncomputable def sts26 : List Stmt := (bodyE.drop 139).take 2
theorem q26 : ∀ w : World, (fun os => sgT w 74 ⟨T26 w.params, 1084, {}, ⟨[]⟩, {}, 1854, os⟩ (thr sts26 ⟨863, 0, 864, 88⟩)) = fun os => some (Flow.next, ⟨T27 w.params, 1098, {}, ⟨[]⟩, {}, 1883, os⟩, cE, ⟨870, 0, 903, 58⟩) := fun w => by kernel_rfl
noncomputable abbrev st (T : Params → BT) (n k : Nat) (w : World) (os : OsState) : SharedT := ⟨T w.params, n, {}, ⟨[]⟩, {}, k, os⟩
theorem lift {w : World} {n : Nat} {s s' : SharedT} {t : Thread} {f : Flow} {c : Code} {q : Pos} (h : sgT w n s t = some (f, s', c, q)) : segRun treeTable pE w 11 (some (.ref 6)) 1 n s.abs t = some (f, s'.abs, c, q) := segRun_of (by
  unfold sgT at h
  rw [← PySem.W.Fast.te10110043849684766642, ← PySem.W.Fast.te14364793385576792824] at h
  exact h)
theorem fin {w : World} (s : SharedT) (q : Pos) : topRun treeTable pE w 11 (some (.ref 6)) 2 s.abs ⟨doneF .next, cE, q, BF⟩ = some s.abs := by
  obtain ⟨a, b, c, d, e, f, g⟩ := s
  kernel_rfl
theorem qpre : ∀ w : World, (fun os => PySem.W.Fast.tw15667345088766844465 PySem.W.Fast.tw14364793385576792824 pE w 11 (some (.ref 6)) 12 ⟨boot_heap w.params, ⟨[]⟩, boot_drawn, boot_toks, os⟩ (topStub pE)) = fun os => some ((st T0 15 187 w os).abs, ⟨PySem.W.Fast.tw11892475500146522536 PySem.W.Fast.tw14364793385576792824 cE, cE, ⟨0, 0, 0, 0⟩, BF⟩) := fun w => by kernel_rfl
theorem pre (w : World) (os : OsState) : topGo treeTable pE w 11 (some (.ref 6)) 12 ⟨boot_heap w.params, ⟨[]⟩, boot_drawn, boot_toks, os⟩ (topStub pE) = some ((st T0 15 187 w os).abs, ⟨denote treeTable cE, cE, ⟨0, 0, 0, 0⟩, BF⟩) := by
  rw [PySem.W.Fast.te15667345088766844465, PySem.W.Fast.te11892475500146522536, PySem.W.Fast.te14364793385576792824]
  exact congrFun (qpre w) os
theorem qblock : ∀ w : World, (fun os => PySem.W.Fast.tw14374325043358763698 PySem.W.Fast.tw14364793385576792824 pE w 11 (some (.ref 6)) 1 1 (st T0 15 187 w os).abs (blockOf bodyE envE cE ⟨0, 0, 0, 0⟩ BF)) = fun os => some (Flow.next, (st T0 15 187 w os).abs, cE, ⟨0, 0, 0, 0⟩) := fun w => by kernel_rfl
theorem block (w : World) (os : OsState) : segRun treeTable pE w 11 (some (.ref 6)) 1 1 (st T0 15 187 w os).abs (blockOf bodyE envE cE ⟨0, 0, 0, 0⟩ BF) = some (Flow.next, (st T0 15 187 w os).abs, cE, ⟨0, 0, 0, 0⟩) := by
  rw [PySem.W.Fast.te14374325043358763698, PySem.W.Fast.te14364793385576792824]
  exact congrFun (qblock w) os
theorem bodySplit : bodyE = (sts0 ++ (sts1 ++ (sts2 ++ (sts3 ++ (sts4 ++ (sts5 ++ (sts6 ++ (sts7 ++ (sts8 ++ (sts9 ++ (sts10 ++ (sts11 ++ (sts12 ++ (sts13 ++ (sts14 ++ (sts15 ++ (sts16 ++ (sts17 ++ (sts18 ++ (sts19 ++ (sts20 ++ (sts21 ++ (sts22 ++ (sts23 ++ (sts24 ++ (sts25 ++ (sts26 ++ ([] : List Stmt)))))))))))))))))))))))))))) := by kernel_rfl
theorem run (w : World) (os : OsState) : topRun treeTable pE w 11 (some (.ref 6)) (12 + (1 + (266 + (248 + (226 + (415 + (381 + (254 + (243 + (229 + (246 + (269 + (229 + (384 + (152 + (376 + (181 + (389 + (396 + (381 + (383 + (278 + (233 + (301 + (374 + (75 + (578 + (385 + (74 + 2))))))))))))))))))))))))))))) ⟨boot_heap w.params, ⟨[]⟩, boot_drawn, boot_toks, os⟩ (topStub pE) = some (st T27 1098 1883 w os).abs :=
  go_top (pre w os) (piece_block (block w os) (bodySplit ▸ (piece_app (lift (congrFun (q0 w) os)) (piece_app (lift (congrFun (q1 w) os)) (piece_app (lift (congrFun (q2 w) os)) (piece_app (lift (congrFun (q3 w) os)) (piece_app (lift (congrFun (q4 w) os)) (piece_app (lift (congrFun (q5 w) os)) (piece_app (lift (congrFun (q6 w) os)) (piece_app (lift (congrFun (q7 w) os)) (piece_app (lift (congrFun (q8 w) os)) (piece_app (lift (congrFun (q9 w) os)) (piece_app (lift (congrFun (q10 w) os)) (piece_app (lift (congrFun (q11 w) os)) (piece_app (lift (congrFun (q12 w) os)) (piece_app (lift (congrFun (q13 w) os)) (piece_app (lift (congrFun (q14 w) os)) (piece_app (lift (congrFun (q15 w) os)) (piece_app (lift (congrFun (q16 w) os)) (piece_app (lift (congrFun (q17 w) os)) (piece_app (lift (congrFun (q18 w) os)) (piece_app (lift (congrFun (q19 w) os)) (piece_app (lift (congrFun (q20 w) os)) (piece_app (lift (congrFun (q21 w) os)) (piece_app (lift (congrFun (q22 w) os)) (piece_app (lift (congrFun (q23 w) os)) (piece_app (lift (congrFun (q24 w) os)) (piece_app (lift (congrFun (q25 w) os)) (piece_app (lift (congrFun (q26 w) os)) (piece_nil (fin _ _)))))))))))))))))))))))))))))))
noncomputable def HF (P : Params) : Heap := absHeap (T27 P) 1098 {}
-- pre: 12 steps, pos ⟨0, 0, 0, 0⟩; block 0 steps, pos ⟨0, 0, 0, 0⟩; framePos ⟨0, 0, 0, 0⟩; code (.ref 13); frame 14; ann (some (.ref 6)); fin 1; n0 11; toks pre 187
--   (0, 266, 15, 187, ⟨0, 0, 0, 0⟩, 43, 230, ⟨5, 0, 13, 29⟩, [])
--   (1, 248, 43, 230, ⟨5, 0, 13, 29⟩, 62, 257, ⟨14, 0, 19, 25⟩, [])
--   (2, 226, 62, 257, ⟨14, 0, 19, 25⟩, 84, 288, ⟨20, 0, 24, 30⟩, [])
--   (3, 415, 84, 288, ⟨20, 0, 24, 30⟩, 147, 365, ⟨25, 0, 49, 16⟩, [])
--   (4, 381, 147, 365, ⟨25, 0, 49, 16⟩, 225, 466, ⟨97, 0, 99, 26⟩, [])
--   (5, 254, 225, 466, ⟨97, 0, 99, 26⟩, 281, 543, ⟨148, 0, 149, 29⟩, [])
--   (6, 243, 281, 543, ⟨148, 0, 149, 29⟩, 289, 579, ⟨155, 0, 155, 8⟩, [special-get-raises])
--   (7, 229, 289, 579, ⟨155, 0, 155, 8⟩, 309, 608, ⟨156, 0, 160, 24⟩, [])
--   (8, 246, 309, 608, ⟨156, 0, 160, 24⟩, 328, 633, ⟨161, 0, 165, 26⟩, [])
--   (9, 269, 328, 633, ⟨161, 0, 165, 26⟩, 348, 665, ⟨172, 0, 172, 8⟩, [])
--   (10, 229, 348, 665, ⟨172, 0, 172, 8⟩, 369, 700, ⟨173, 0, 179, 26⟩, [])
--   (11, 384, 369, 700, ⟨173, 0, 179, 26⟩, 425, 776, ⟨223, 0, 227, 32⟩, [])
--   (12, 152, 425, 776, ⟨223, 0, 227, 32⟩, 453, 832, ⟨268, 0, 268, 8⟩, [])
--   (13, 376, 453, 832, ⟨268, 0, 268, 8⟩, 503, 924, ⟨270, 0, 271, 90⟩, [special-get-raises])
--   (14, 181, 503, 924, ⟨270, 0, 271, 90⟩, 509, 961, ⟨280, 0, 280, 9⟩, [special-get-raises])
--   (15, 389, 509, 961, ⟨280, 0, 280, 9⟩, 565, 1042, ⟨310, 0, 316, 16⟩, [])
--   (16, 396, 565, 1042, ⟨310, 0, 316, 16⟩, 650, 1157, ⟨415, 0, 431, 48⟩, [])
--   (17, 381, 650, 1157, ⟨415, 0, 431, 48⟩, 715, 1261, ⟨504, 0, 506, 18⟩, [special-get-raises])
--   (18, 383, 715, 1261, ⟨504, 0, 506, 18⟩, 790, 1374, ⟨604, 0, 622, 50⟩, [])
--   (19, 278, 790, 1374, ⟨604, 0, 622, 50⟩, 844, 1463, ⟨702, 0, 702, 8⟩, [])
--   (20, 233, 844, 1463, ⟨702, 0, 702, 8⟩, 865, 1502, ⟨703, 0, 711, 24⟩, [])
--   (21, 301, 865, 1502, ⟨703, 0, 711, 24⟩, 887, 1565, ⟨739, 0, 739, 6⟩, [])
--   (22, 374, 887, 1565, ⟨739, 0, 739, 6⟩, 926, 1631, ⟨759, 0, 767, 28⟩, [])
--   (23, 75, 926, 1631, ⟨759, 0, 767, 28⟩, 940, 1654, ⟨782, 0, 782, 8⟩, [])
--   (24, 578, 940, 1654, ⟨782, 0, 782, 8⟩, 1036, 1776, ⟨783, 0, 843, 16⟩, [])
--   (25, 385, 1036, 1776, ⟨783, 0, 843, 16⟩, 1084, 1854, ⟨863, 0, 864, 88⟩, [])
--   (26, 74, 1084, 1854, ⟨863, 0, 864, 88⟩, 1098, 1883, ⟨870, 0, 903, 58⟩, [])
noncomputable def KF (P : Params) : Frag := (nat_lit 2, o2v8 P) :: (nat_lit 3, o3v27 P) :: (nat_lit 15, o15 P) :: (nat_lit 17, o17 P) :: (nat_lit 18, o18 P) :: (nat_lit 20, o20 P) :: (nat_lit 21, o21 P) :: (nat_lit 29, o29 P) :: (nat_lit 31, o31 P) :: (nat_lit 32, o32 P) :: (nat_lit 34, o34 P) :: (nat_lit 35, o35 P) :: (nat_lit 36, o36 P) :: (nat_lit 37, o37 P) :: (nat_lit 38, o38v2 P) :: (nat_lit 39, o39 P) :: (nat_lit 40, o40 P) :: (nat_lit 43, o43 P) :: (nat_lit 50, o50 P) :: (nat_lit 52, o52 P) :: (nat_lit 53, o53 P) :: (nat_lit 55, o55 P) :: (nat_lit 56, o56 P) :: (nat_lit 57, o57 P) :: (nat_lit 58, o58 P) :: (nat_lit 59, o59 P) :: (nat_lit 69, o69 P) :: (nat_lit 70, o70 P) :: (nat_lit 72, o72 P) :: (nat_lit 73, o73 P) :: (nat_lit 75, o75 P) :: (nat_lit 76, o76 P) :: (nat_lit 77, o77 P) :: (nat_lit 78, o78 P) :: (nat_lit 79, o79 P) :: (nat_lit 80, o80 P) :: (nat_lit 81, o81 P) :: (nat_lit 91, o91 P) :: (nat_lit 93, o93 P) :: (nat_lit 94, o94 P) :: (nat_lit 96, o96 P) :: (nat_lit 97, o97 P) :: (nat_lit 98, o98 P) :: (nat_lit 100, o100 P) :: (nat_lit 101, o101 P) :: (nat_lit 103, o103 P) :: (nat_lit 104, o104 P) :: (nat_lit 105, o105 P) :: (nat_lit 107, o107 P) :: (nat_lit 108, o108 P) :: (nat_lit 110, o110 P) :: (nat_lit 111, o111 P) :: (nat_lit 112, o112 P) :: (nat_lit 114, o114 P) :: (nat_lit 115, o115 P) :: (nat_lit 117, o117 P) :: (nat_lit 118, o118 P) :: (nat_lit 119, o119 P) :: (nat_lit 121, o121 P) :: (nat_lit 122, o122 P) :: (nat_lit 124, o124 P) :: (nat_lit 125, o125 P) :: (nat_lit 126, o126 P) :: (nat_lit 128, o128 P) :: (nat_lit 129, o129 P) :: (nat_lit 131, o131 P) :: (nat_lit 132, o132 P) :: (nat_lit 133, o133 P) :: (nat_lit 135, o135 P) :: (nat_lit 136, o136 P) :: (nat_lit 138, o138 P) :: (nat_lit 139, o139 P) :: (nat_lit 140, o140 P) :: (nat_lit 141, o141 P) :: (nat_lit 142, o142 P) :: (nat_lit 143, o143 P) :: (nat_lit 144, o144 P) :: (nat_lit 147, o147 P) :: (nat_lit 149, o149 P) :: (nat_lit 150, o150 P) :: (nat_lit 152, o152 P) :: (nat_lit 153, o153 P) :: (nat_lit 154, o154 P) :: (nat_lit 156, o156 P) :: (nat_lit 157, o157 P) :: (nat_lit 159, o159 P) :: (nat_lit 160, o160 P) :: (nat_lit 161, o161 P) :: (nat_lit 163, o163 P) :: (nat_lit 164, o164 P) :: (nat_lit 166, o166 P) :: (nat_lit 167, o167 P) :: (nat_lit 168, o168 P) :: (nat_lit 170, o170 P) :: (nat_lit 171, o171 P) :: (nat_lit 173, o173 P) :: (nat_lit 174, o174 P) :: (nat_lit 175, o175 P) :: (nat_lit 176, o176 P) :: (nat_lit 178, o178 P) :: (nat_lit 179, o179 P) :: (nat_lit 181, o181 P) :: (nat_lit 182, o182 P) :: (nat_lit 183, o183 P) :: (nat_lit 185, o185 P) :: (nat_lit 186, o186 P) :: (nat_lit 188, o188 P) :: (nat_lit 189, o189 P) :: (nat_lit 190, o190 P) :: (nat_lit 192, o192 P) :: (nat_lit 193, o193 P) :: (nat_lit 195, o195 P) :: (nat_lit 196, o196 P) :: (nat_lit 197, o197 P) :: (nat_lit 199, o199 P) :: (nat_lit 200, o200 P) :: (nat_lit 202, o202 P) :: (nat_lit 203, o203 P) :: (nat_lit 204, o204 P) :: (nat_lit 206, o206 P) :: (nat_lit 207, o207 P) :: (nat_lit 209, o209 P) :: (nat_lit 210, o210 P) :: (nat_lit 211, o211 P) :: (nat_lit 213, o213 P) :: (nat_lit 214, o214 P) :: (nat_lit 216, o216 P) :: (nat_lit 217, o217 P) :: (nat_lit 218, o218 P) :: (nat_lit 220, o220 P) :: (nat_lit 221, o221 P) :: (nat_lit 223, o223 P) :: (nat_lit 224, o224 P) :: (nat_lit 225, o225 P) :: (nat_lit 227, o227 P) :: (nat_lit 228, o228 P) :: (nat_lit 230, o230 P) :: (nat_lit 231, o231 P) :: (nat_lit 232, o232 P) :: (nat_lit 234, o234 P) :: (nat_lit 235, o235 P) :: (nat_lit 237, o237 P) :: (nat_lit 238, o238 P) :: (nat_lit 239, o239 P) :: (nat_lit 241, o241 P) :: (nat_lit 242, o242 P) :: (nat_lit 244, o244 P) :: (nat_lit 245, o245 P) :: (nat_lit 246, o246 P) :: (nat_lit 248, o248 P) :: (nat_lit 249, o249 P) :: (nat_lit 251, o251 P) :: (nat_lit 252, o252 P) :: (nat_lit 253, o253 P) :: (nat_lit 255, o255 P) :: (nat_lit 256, o256 P) :: (nat_lit 258, o258 P) :: (nat_lit 259, o259 P) :: (nat_lit 260, o260 P) :: (nat_lit 262, o262 P) :: (nat_lit 263, o263 P) :: (nat_lit 265, o265 P) :: (nat_lit 266, o266 P) :: (nat_lit 267, o267 P) :: (nat_lit 269, o269 P) :: (nat_lit 270, o270 P) :: (nat_lit 272, o272 P) :: (nat_lit 273, o273 P) :: (nat_lit 274, o274 P) :: (nat_lit 276, o276 P) :: (nat_lit 277, o277 P) :: (nat_lit 279, o279 P) :: (nat_lit 280, o280 P) :: (nat_lit 281, o281 P) :: (nat_lit 282, o282 P) :: (nat_lit 284, o284 P) :: (nat_lit 285, o285 P) :: (nat_lit 287, o287 P) :: (nat_lit 288, o288 P) :: (nat_lit 289, o289 P) :: (nat_lit 296, o296 P) :: (nat_lit 298, o298 P) :: (nat_lit 299, o299 P) :: (nat_lit 301, o301 P) :: (nat_lit 302, o302 P) :: (nat_lit 303, o303 P) :: (nat_lit 304, o304 P) :: (nat_lit 305, o305v10 P) :: (nat_lit 306, o306 P) :: (nat_lit 309, o309 P) :: (nat_lit 316, o316 P) :: (nat_lit 318, o318 P) :: (nat_lit 319, o319 P) :: (nat_lit 321, o321 P) :: (nat_lit 322, o322 P) :: (nat_lit 323, o323 P) :: (nat_lit 324, o324 P) :: (nat_lit 325, o325 P) :: (nat_lit 328, o328 P) :: (nat_lit 335, o335 P) :: (nat_lit 337, o337 P) :: (nat_lit 338, o338 P) :: (nat_lit 340, o340 P) :: (nat_lit 341, o341 P) :: (nat_lit 342, o342 P) :: (nat_lit 343, o343 P) :: (nat_lit 344, o344 P) :: (nat_lit 347, o347 P) :: (nat_lit 355, o355 P) :: (nat_lit 357, o357 P) :: (nat_lit 358, o358 P) :: (nat_lit 360, o360 P) :: (nat_lit 361, o361 P) :: (nat_lit 362, o362 P) :: (nat_lit 363, o363 P) :: (nat_lit 364, o364 P) :: (nat_lit 365, o365 P) :: (nat_lit 366, o366 P) :: (nat_lit 376, o376 P) :: (nat_lit 378, o378 P) :: (nat_lit 379, o379 P) :: (nat_lit 381, o381 P) :: (nat_lit 382, o382 P) :: (nat_lit 383, o383 P) :: (nat_lit 385, o385 P) :: (nat_lit 386, o386 P) :: (nat_lit 388, o388 P) :: (nat_lit 389, o389 P) :: (nat_lit 390, o390 P) :: (nat_lit 392, o392 P) :: (nat_lit 393, o393 P) :: (nat_lit 395, o395 P) :: (nat_lit 396, o396 P) :: (nat_lit 397, o397 P) :: (nat_lit 398, o398 P) :: (nat_lit 399, o399 P) :: (nat_lit 400, o400 P) :: (nat_lit 401, o401 P) :: (nat_lit 404, o404 P) :: (nat_lit 406, o406 P) :: (nat_lit 407, o407 P) :: (nat_lit 409, o409 P) :: (nat_lit 410, o410 P) :: (nat_lit 411, o411 P) :: (nat_lit 413, o413 P) :: (nat_lit 414, o414 P) :: (nat_lit 416, o416 P) :: (nat_lit 417, o417 P) :: (nat_lit 418, o418 P) :: (nat_lit 420, o420 P) :: (nat_lit 421, o421 P) :: (nat_lit 423, o423 P) :: (nat_lit 424, o424 P) :: (nat_lit 425, o425 P) :: (nat_lit 427, o427 P) :: (nat_lit 428, o428 P) :: (nat_lit 430, o430 P) :: (nat_lit 431, o431 P) :: (nat_lit 432, o432 P) :: (nat_lit 434, o434 P) :: (nat_lit 435, o435 P) :: (nat_lit 437, o437 P) :: (nat_lit 438, o438 P) :: (nat_lit 439, o439 P) :: (nat_lit 441, o441 P) :: (nat_lit 442, o442 P) :: (nat_lit 444, o444 P) :: (nat_lit 445, o445 P) :: (nat_lit 446, o446 P) :: (nat_lit 448, o448 P) :: (nat_lit 449, o449 P) :: (nat_lit 451, o451 P) :: (nat_lit 452, o452 P) :: (nat_lit 453, o453 P) :: (nat_lit 454, o454 P) :: (nat_lit 455, o455 P) :: (nat_lit 456, o456 P) :: (nat_lit 457, o457 P) :: (nat_lit 458, o458 P) :: (nat_lit 459, o459 P) :: (nat_lit 460, o460 P) :: (nat_lit 461, o461 P) :: (nat_lit 462, o462 P) :: (nat_lit 463, o463 P) :: (nat_lit 464, o464 P) :: (nat_lit 465, o465 P) :: (nat_lit 466, o466 P) :: (nat_lit 467, o467 P) :: (nat_lit 468, o468 P) :: (nat_lit 469, o469 P) :: (nat_lit 470, o470 P) :: (nat_lit 471, o471 P) :: (nat_lit 472, o472 P) :: (nat_lit 473, o473 P) :: (nat_lit 474, o474 P) :: (nat_lit 475, o475 P) :: (nat_lit 476, o476 P) :: (nat_lit 477, o477 P) :: (nat_lit 478, o478 P) :: (nat_lit 479, o479 P) :: (nat_lit 480, o480 P) :: (nat_lit 481, o481 P) :: (nat_lit 482, o482 P) :: (nat_lit 483, o483 P) :: (nat_lit 484, o484 P) :: (nat_lit 485, o485 P) :: (nat_lit 486, o486 P) :: (nat_lit 487, o487 P) :: (nat_lit 488, o488 P) :: (nat_lit 489, o489 P) :: (nat_lit 490, o490 P) :: (nat_lit 491, o491 P) :: (nat_lit 492, o492 P) :: (nat_lit 493, o493 P) :: (nat_lit 494, o494 P) :: (nat_lit 495, o495 P) :: (nat_lit 496, o496 P) :: (nat_lit 498, o498 P) :: (nat_lit 499, o499 P) :: (nat_lit 501, o501 P) :: (nat_lit 502, o502 P) :: (nat_lit 503, o503 P) :: (nat_lit 506, o506 P) :: (nat_lit 507, o507 P) :: (nat_lit 508, o508 P) :: (nat_lit 516, o516 P) :: (nat_lit 518, o518 P) :: (nat_lit 519, o519 P) :: (nat_lit 521, o521 P) :: (nat_lit 522, o522 P) :: (nat_lit 523, o523 P) :: (nat_lit 525, o525 P) :: (nat_lit 526, o526 P) :: (nat_lit 528, o528 P) :: (nat_lit 529, o529 P) :: (nat_lit 530, o530 P) :: (nat_lit 532, o532 P) :: (nat_lit 533, o533 P) :: (nat_lit 535, o535 P) :: (nat_lit 536, o536 P) :: (nat_lit 537, o537 P) :: (nat_lit 538, o538 P) :: (nat_lit 539, o539 P) :: (nat_lit 540, o540 P) :: (nat_lit 541, o541 P) :: (nat_lit 544, o544 P) :: (nat_lit 546, o546 P) :: (nat_lit 547, o547 P) :: (nat_lit 549, o549 P) :: (nat_lit 550, o550 P) :: (nat_lit 551, o551 P) :: (nat_lit 553, o553 P) :: (nat_lit 554, o554 P) :: (nat_lit 556, o556 P) :: (nat_lit 557, o557 P) :: (nat_lit 558, o558 P) :: (nat_lit 560, o560 P) :: (nat_lit 561, o561 P) :: (nat_lit 563, o563 P) :: (nat_lit 564, o564 P) :: (nat_lit 565, o565 P) :: (nat_lit 567, o567 P) :: (nat_lit 568, o568 P) :: (nat_lit 570, o570 P) :: (nat_lit 571, o571 P) :: (nat_lit 572, o572 P) :: (nat_lit 575, o575 P) :: (nat_lit 576, o576 P) :: (nat_lit 577, o577 P) :: (nat_lit 580, o580 P) :: (nat_lit 581, o581 P) :: (nat_lit 582, o582 P) :: (nat_lit 585, o585 P) :: (nat_lit 586, o586 P) :: (nat_lit 587, o587 P) :: (nat_lit 589, o589 P) :: (nat_lit 590, o590 P) :: (nat_lit 592, o592 P) :: (nat_lit 593, o593 P) :: (nat_lit 594, o594 P) :: (nat_lit 596, o596 P) :: (nat_lit 597, o597 P) :: (nat_lit 599, o599 P) :: (nat_lit 600, o600 P) :: (nat_lit 601, o601 P) :: (nat_lit 603, o603 P) :: (nat_lit 604, o604 P) :: (nat_lit 606, o606 P) :: (nat_lit 607, o607 P) :: (nat_lit 608, o608 P) :: (nat_lit 610, o610 P) :: (nat_lit 611, o611 P) :: (nat_lit 613, o613 P) :: (nat_lit 614, o614 P) :: (nat_lit 615, o615 P) :: (nat_lit 617, o617 P) :: (nat_lit 618, o618 P) :: (nat_lit 620, o620 P) :: (nat_lit 621, o621 P) :: (nat_lit 622, o622 P) :: (nat_lit 624, o624 P) :: (nat_lit 625, o625 P) :: (nat_lit 627, o627 P) :: (nat_lit 628, o628 P) :: (nat_lit 629, o629 P) :: (nat_lit 631, o631 P) :: (nat_lit 632, o632 P) :: (nat_lit 634, o634 P) :: (nat_lit 635, o635 P) :: (nat_lit 636, o636 P) :: (nat_lit 638, o638 P) :: (nat_lit 639, o639 P) :: (nat_lit 641, o641 P) :: (nat_lit 642, o642 P) :: (nat_lit 643, o643 P) :: (nat_lit 645, o645 P) :: (nat_lit 646, o646 P) :: (nat_lit 648, o648 P) :: (nat_lit 649, o649 P) :: (nat_lit 650, o650 P) :: (nat_lit 651, o651 P) :: (nat_lit 652, o652 P) :: (nat_lit 653, o653 P) :: (nat_lit 654, o654 P) :: (nat_lit 656, o656 P) :: (nat_lit 657, o657 P) :: (nat_lit 659, o659 P) :: (nat_lit 660, o660 P) :: (nat_lit 661, o661 P) :: (nat_lit 663, o663 P) :: (nat_lit 664, o664 P) :: (nat_lit 666, o666 P) :: (nat_lit 667, o667 P) :: (nat_lit 668, o668 P) :: (nat_lit 670, o670 P) :: (nat_lit 671, o671 P) :: (nat_lit 673, o673 P) :: (nat_lit 674, o674 P) :: (nat_lit 675, o675 P) :: (nat_lit 677, o677 P) :: (nat_lit 678, o678 P) :: (nat_lit 680, o680 P) :: (nat_lit 681, o681 P) :: (nat_lit 682, o682 P) :: (nat_lit 685, o685 P) :: (nat_lit 686, o686 P) :: (nat_lit 687, o687 P) :: (nat_lit 689, o689 P) :: (nat_lit 690, o690 P) :: (nat_lit 692, o692 P) :: (nat_lit 693, o693 P) :: (nat_lit 694, o694 P) :: (nat_lit 696, o696 P) :: (nat_lit 697, o697 P) :: (nat_lit 699, o699 P) :: (nat_lit 700, o700 P) :: (nat_lit 701, o701 P) :: (nat_lit 703, o703 P) :: (nat_lit 704, o704 P) :: (nat_lit 706, o706 P) :: (nat_lit 707, o707 P) :: (nat_lit 708, o708 P) :: (nat_lit 710, o710 P) :: (nat_lit 711, o711 P) :: (nat_lit 713, o713 P) :: (nat_lit 714, o714 P) :: (nat_lit 715, o715 P) :: (nat_lit 717, o717 P) :: (nat_lit 718, o718 P) :: (nat_lit 720, o720 P) :: (nat_lit 721, o721 P) :: (nat_lit 722, o722 P) :: (nat_lit 724, o724 P) :: (nat_lit 725, o725 P) :: (nat_lit 727, o727 P) :: (nat_lit 728, o728 P) :: (nat_lit 729, o729 P) :: (nat_lit 732, o732 P) :: (nat_lit 733, o733 P) :: (nat_lit 734, o734 P) :: (nat_lit 735, o735 P) :: (nat_lit 736, o736 P) :: (nat_lit 737, o737 P) :: (nat_lit 738, o738 P) :: (nat_lit 739, o739 P) :: (nat_lit 740, o740 P) :: (nat_lit 741, o741 P) :: (nat_lit 742, o742 P) :: (nat_lit 743, o743 P) :: (nat_lit 745, o745 P) :: (nat_lit 746, o746 P) :: (nat_lit 748, o748 P) :: (nat_lit 749, o749 P) :: (nat_lit 750, o750 P) :: (nat_lit 753, o753 P) :: (nat_lit 754, o754 P) :: (nat_lit 755, o755 P) :: (nat_lit 757, o757 P) :: (nat_lit 758, o758 P) :: (nat_lit 760, o760 P) :: (nat_lit 761, o761 P) :: (nat_lit 762, o762 P) :: (nat_lit 764, o764 P) :: (nat_lit 765, o765 P) :: (nat_lit 767, o767 P) :: (nat_lit 768, o768 P) :: (nat_lit 769, o769 P) :: (nat_lit 771, o771 P) :: (nat_lit 772, o772 P) :: (nat_lit 774, o774 P) :: (nat_lit 775, o775 P) :: (nat_lit 776, o776 P) :: (nat_lit 778, o778 P) :: (nat_lit 779, o779 P) :: (nat_lit 781, o781 P) :: (nat_lit 782, o782 P) :: (nat_lit 783, o783 P) :: (nat_lit 785, o785 P) :: (nat_lit 786, o786 P) :: (nat_lit 788, o788 P) :: (nat_lit 789, o789 P) :: (nat_lit 790, o790 P) :: (nat_lit 792, o792 P) :: (nat_lit 793, o793 P) :: (nat_lit 795, o795 P) :: (nat_lit 796, o796 P) :: (nat_lit 797, o797 P) :: (nat_lit 799, o799 P) :: (nat_lit 800, o800 P) :: (nat_lit 802, o802 P) :: (nat_lit 803, o803 P) :: (nat_lit 804, o804 P) :: (nat_lit 806, o806 P) :: (nat_lit 807, o807 P) :: (nat_lit 809, o809 P) :: (nat_lit 810, o810 P) :: (nat_lit 811, o811 P) :: (nat_lit 813, o813 P) :: (nat_lit 814, o814 P) :: (nat_lit 816, o816 P) :: (nat_lit 817, o817 P) :: (nat_lit 818, o818 P) :: (nat_lit 820, o820 P) :: (nat_lit 821, o821 P) :: (nat_lit 823, o823 P) :: (nat_lit 824, o824 P) :: (nat_lit 825, o825 P) :: (nat_lit 827, o827 P) :: (nat_lit 828, o828 P) :: (nat_lit 830, o830 P) :: (nat_lit 831, o831 P) :: (nat_lit 832, o832 P) :: (nat_lit 835, o835 P) :: (nat_lit 836, o836 P) :: (nat_lit 837, o837 P) :: (nat_lit 839, o839 P) :: (nat_lit 840, o840 P) :: (nat_lit 842, o842 P) :: (nat_lit 843, o843 P) :: (nat_lit 851, o851 P) :: (nat_lit 853, o853 P) :: (nat_lit 854, o854 P) :: (nat_lit 856, o856 P) :: (nat_lit 857, o857 P) :: (nat_lit 858, o858 P) :: (nat_lit 859, o859 P) :: (nat_lit 860, o860v23 P) :: (nat_lit 861, o861 P) :: (nat_lit 862, o862 P) :: (nat_lit 872, o872 P) :: (nat_lit 874, o874 P) :: (nat_lit 875, o875 P) :: (nat_lit 877, o877 P) :: (nat_lit 878, o878 P) :: (nat_lit 879, o879 P) :: (nat_lit 880, o880 P) :: (nat_lit 881, o881 P) :: (nat_lit 882, o882 P) :: (nat_lit 883, o883 P) :: (nat_lit 886, o886 P) :: (nat_lit 887, o887 P) :: (nat_lit 894, o894 P) :: (nat_lit 896, o896 P) :: (nat_lit 897, o897 P) :: (nat_lit 899, o899 P) :: (nat_lit 900, o900 P) :: (nat_lit 901, o901 P) :: (nat_lit 902, o902 P) :: (nat_lit 903, o903 P) :: (nat_lit 906, o906 P) :: (nat_lit 908, o908 P) :: (nat_lit 909, o909 P) :: (nat_lit 911, o911 P) :: (nat_lit 912, o912 P) :: (nat_lit 913, o913 P) :: (nat_lit 914, o914 P) :: (nat_lit 917, o917 P) :: (nat_lit 918, o918 P) :: (nat_lit 919, o919 P) :: (nat_lit 921, o921 P) :: (nat_lit 922, o922 P) :: (nat_lit 924, o924 P) :: (nat_lit 925, o925 P) :: (nat_lit 926, o926 P) :: (nat_lit 928, o928 P) :: (nat_lit 929, o929 P) :: (nat_lit 931, o931 P) :: (nat_lit 932, o932 P) :: (nat_lit 933, o933 P) :: (nat_lit 935, o935 P) :: (nat_lit 936, o936 P) :: (nat_lit 938, o938 P) :: (nat_lit 939, o939 P) :: (nat_lit 947, o947 P) :: (nat_lit 949, o949 P) :: (nat_lit 950, o950 P) :: (nat_lit 952, o952 P) :: (nat_lit 953, o953 P) :: (nat_lit 954, o954 P) :: (nat_lit 956, o956 P) :: (nat_lit 957, o957 P) :: (nat_lit 959, o959 P) :: (nat_lit 960, o960 P) :: (nat_lit 961, o961 P) :: (nat_lit 963, o963 P) :: (nat_lit 964, o964 P) :: (nat_lit 966, o966 P) :: (nat_lit 967, o967 P) :: (nat_lit 968, o968 P) :: (nat_lit 970, o970 P) :: (nat_lit 971, o971 P) :: (nat_lit 973, o973 P) :: (nat_lit 974, o974 P) :: (nat_lit 975, o975 P) :: (nat_lit 977, o977 P) :: (nat_lit 978, o978 P) :: (nat_lit 980, o980 P) :: (nat_lit 981, o981 P) :: (nat_lit 982, o982 P) :: (nat_lit 985, o985 P) :: (nat_lit 986, o986 P) :: (nat_lit 987, o987 P) :: (nat_lit 989, o989 P) :: (nat_lit 990, o990 P) :: (nat_lit 992, o992 P) :: (nat_lit 993, o993 P) :: (nat_lit 994, o994 P) :: (nat_lit 996, o996 P) :: (nat_lit 997, o997 P) :: (nat_lit 999, o999 P) :: (nat_lit 1000, o1000 P) :: (nat_lit 1001, o1001 P) :: (nat_lit 1003, o1003 P) :: (nat_lit 1004, o1004 P) :: (nat_lit 1006, o1006 P) :: (nat_lit 1007, o1007 P) :: (nat_lit 1008, o1008 P) :: (nat_lit 1010, o1010 P) :: (nat_lit 1011, o1011 P) :: (nat_lit 1013, o1013 P) :: (nat_lit 1014, o1014 P) :: (nat_lit 1015, o1015 P) :: (nat_lit 1017, o1017 P) :: (nat_lit 1018, o1018 P) :: (nat_lit 1020, o1020 P) :: (nat_lit 1021, o1021 P) :: (nat_lit 1022, o1022 P) :: (nat_lit 1024, o1024 P) :: (nat_lit 1025, o1025 P) :: (nat_lit 1027, o1027 P) :: (nat_lit 1028, o1028 P) :: (nat_lit 1029, o1029 P) :: (nat_lit 1030, o1030 P) :: (nat_lit 1031, o1031 P) :: (nat_lit 1032, o1032 P) :: (nat_lit 1033, o1033 P) :: (nat_lit 1043, o1043 P) :: (nat_lit 1044, o1044 P) :: (nat_lit 1046, o1046 P) :: (nat_lit 1047, o1047 P) :: (nat_lit 1049, o1049 P) :: (nat_lit 1050, o1050 P) :: (nat_lit 1051, o1051 P) :: (nat_lit 1052, o1052 P) :: (nat_lit 1053, o1053 P) :: (nat_lit 1054, o1054 P) :: (nat_lit 1055, o1055 P) :: (nat_lit 1058, o1058 P) :: (nat_lit 1060, o1060 P) :: (nat_lit 1061, o1061 P) :: (nat_lit 1063, o1063 P) :: (nat_lit 1064, o1064 P) :: (nat_lit 1065, o1065 P) :: (nat_lit 1067, o1067 P) :: (nat_lit 1068, o1068 P) :: (nat_lit 1070, o1070 P) :: (nat_lit 1071, o1071 P) :: (nat_lit 1072, o1072 P) :: (nat_lit 1074, o1074 P) :: (nat_lit 1075, o1075 P) :: (nat_lit 1077, o1077 P) :: (nat_lit 1078, o1078 P) :: (nat_lit 1079, o1079 P) :: (nat_lit 1082, o1082 P) :: (nat_lit 1083, o1083 P) :: (nat_lit 1084, o1084 P) :: (nat_lit 1086, o1086 P) :: (nat_lit 1087, o1087 P) :: (nat_lit 1089, o1089 P) :: (nat_lit 1090, o1090 P) :: (nat_lit 1091, o1091 P) :: (nat_lit 1093, o1093 P) :: (nat_lit 1094, o1094 P) :: (nat_lit 1096, o1096 P) :: (nat_lit 1097, o1097 P) :: []
noncomputable abbrev KAs : List Addr := [2, 3, 15, 17, 18, 20, 21, 29, 31, 32, 34, 35, 36, 37, 38, 39, 40, 43, 50, 52, 53, 55, 56, 57, 58, 59, 69, 70, 72, 73, 75, 76, 77, 78, 79, 80, 81, 91, 93, 94, 96, 97, 98, 100, 101, 103, 104, 105, 107, 108, 110, 111, 112, 114, 115, 117, 118, 119, 121, 122, 124, 125, 126, 128, 129, 131, 132, 133, 135, 136, 138, 139, 140, 141, 142, 143, 144, 147, 149, 150, 152, 153, 154, 156, 157, 159, 160, 161, 163, 164, 166, 167, 168, 170, 171, 173, 174, 175, 176, 178, 179, 181, 182, 183, 185, 186, 188, 189, 190, 192, 193, 195, 196, 197, 199, 200, 202, 203, 204, 206, 207, 209, 210, 211, 213, 214, 216, 217, 218, 220, 221, 223, 224, 225, 227, 228, 230, 231, 232, 234, 235, 237, 238, 239, 241, 242, 244, 245, 246, 248, 249, 251, 252, 253, 255, 256, 258, 259, 260, 262, 263, 265, 266, 267, 269, 270, 272, 273, 274, 276, 277, 279, 280, 281, 282, 284, 285, 287, 288, 289, 296, 298, 299, 301, 302, 303, 304, 305, 306, 309, 316, 318, 319, 321, 322, 323, 324, 325, 328, 335, 337, 338, 340, 341, 342, 343, 344, 347, 355, 357, 358, 360, 361, 362, 363, 364, 365, 366, 376, 378, 379, 381, 382, 383, 385, 386, 388, 389, 390, 392, 393, 395, 396, 397, 398, 399, 400, 401, 404, 406, 407, 409, 410, 411, 413, 414, 416, 417, 418, 420, 421, 423, 424, 425, 427, 428, 430, 431, 432, 434, 435, 437, 438, 439, 441, 442, 444, 445, 446, 448, 449, 451, 452, 453, 454, 455, 456, 457, 458, 459, 460, 461, 462, 463, 464, 465, 466, 467, 468, 469, 470, 471, 472, 473, 474, 475, 476, 477, 478, 479, 480, 481, 482, 483, 484, 485, 486, 487, 488, 489, 490, 491, 492, 493, 494, 495, 496, 498, 499, 501, 502, 503, 506, 507, 508, 516, 518, 519, 521, 522, 523, 525, 526, 528, 529, 530, 532, 533, 535, 536, 537, 538, 539, 540, 541, 544, 546, 547, 549, 550, 551, 553, 554, 556, 557, 558, 560, 561, 563, 564, 565, 567, 568, 570, 571, 572, 575, 576, 577, 580, 581, 582, 585, 586, 587, 589, 590, 592, 593, 594, 596, 597, 599, 600, 601, 603, 604, 606, 607, 608, 610, 611, 613, 614, 615, 617, 618, 620, 621, 622, 624, 625, 627, 628, 629, 631, 632, 634, 635, 636, 638, 639, 641, 642, 643, 645, 646, 648, 649, 650, 651, 652, 653, 654, 656, 657, 659, 660, 661, 663, 664, 666, 667, 668, 670, 671, 673, 674, 675, 677, 678, 680, 681, 682, 685, 686, 687, 689, 690, 692, 693, 694, 696, 697, 699, 700, 701, 703, 704, 706, 707, 708, 710, 711, 713, 714, 715, 717, 718, 720, 721, 722, 724, 725, 727, 728, 729, 732, 733, 734, 735, 736, 737, 738, 739, 740, 741, 742, 743, 745, 746, 748, 749, 750, 753, 754, 755, 757, 758, 760, 761, 762, 764, 765, 767, 768, 769, 771, 772, 774, 775, 776, 778, 779, 781, 782, 783, 785, 786, 788, 789, 790, 792, 793, 795, 796, 797, 799, 800, 802, 803, 804, 806, 807, 809, 810, 811, 813, 814, 816, 817, 818, 820, 821, 823, 824, 825, 827, 828, 830, 831, 832, 835, 836, 837, 839, 840, 842, 843, 851, 853, 854, 856, 857, 858, 859, 860, 861, 862, 872, 874, 875, 877, 878, 879, 880, 881, 882, 883, 886, 887, 894, 896, 897, 899, 900, 901, 902, 903, 906, 908, 909, 911, 912, 913, 914, 917, 918, 919, 921, 922, 924, 925, 926, 928, 929, 931, 932, 933, 935, 936, 938, 939, 947, 949, 950, 952, 953, 954, 956, 957, 959, 960, 961, 963, 964, 966, 967, 968, 970, 971, 973, 974, 975, 977, 978, 980, 981, 982, 985, 986, 987, 989, 990, 992, 993, 994, 996, 997, 999, 1000, 1001, 1003, 1004, 1006, 1007, 1008, 1010, 1011, 1013, 1014, 1015, 1017, 1018, 1020, 1021, 1022, 1024, 1025, 1027, 1028, 1029, 1030, 1031, 1032, 1033, 1043, 1044, 1046, 1047, 1049, 1050, 1051, 1052, 1053, 1054, 1055, 1058, 1060, 1061, 1063, 1064, 1065, 1067, 1068, 1070, 1071, 1072, 1074, 1075, 1077, 1078, 1079, 1082, 1083, 1084, 1086, 1087, 1089, 1090, 1091, 1093, 1094, 1096, 1097]
noncomputable abbrev LOOSE : List PySem.Str := [(Str.ofString "_wall"), (Str.ofString "Thing"), (Str.ofString "Scalar"), (Str.ofString "Ref"), (Str.ofString "Heap"), (Str.ofString "value_of"), (Str.ofString "drop_member"), (Str.ofString "key_place"), (Str.ofString "delete_key"), (Str.ofString "LAST_PATTERN"), (Str.ofString "last_pattern"), (Str.ofString "save_match"), (Str.ofString "set_match"), (Str.ofString "let_go_of"), (Str.ofString "undo_scalar"), (Str.ofString "undo_array"), (Str.ofString "undo_hash"), (Str.ofString "undo_code"), (Str.ofString "undo_elem"), (Str.ofString "undo_helem"), (Str.ofString "undo_tied"), (Str.ofString "undo_pad"), (Str.ofString "undo_slot"), (Str.ofString "undo_match"), (Str.ofString "undo_package"), (Str.ofString "UNDOERS"), (Str.ofString "leave"), (Str.ofString "PerlError"), (Str.ofString "Die"), (Str.ofString "BadPattern"), (Str.ofString "ONE_SIGN"), (Str.ofString "Program"), (Str.ofString "RowMaker"), (Str.ofString "add_node"), (Str.ofString "add_branches"), (Str.ofString "add_atomic"), (Str.ofString "add_repeats"), (Str.ofString "add_loop"), (Str.ofString "add_look"), (Str.ofString "compile_tree"), (Str.ofString "POSIX_RANGES"), (Str.ofString "is_word_sign"), (Str.ofString "posix_items"), (Str.ofString "PLAIN_ESCAPES"), (Str.ofString "OCTAL_FIGURES"), (Str.ofString "HEX_FIGURES"), (Str.ofString "CLASS_LETTERS"), (Str.ofString "POSIX_SIGNS"), (Str.ofString "MOST_CODE"), (Str.ofString "PatternText"), (Str.ofString "run_of"), (Str.ofString "number_of_run"), (Str.ofString "until_sign"), (Str.ofString "sign_of_code"), (Str.ofString "read_hex_sign"), (Str.ofString "read_octal_sign"), (Str.ofString "read_named_sign"), (Str.ofString "read_plain_escape"), (Str.ofString "read_control"), (Str.ofString "signs_end"), (Str.ofString "posix_end"), (Str.ofString "read_posix"), (Str.ofString "read_member"), (Str.ofString "is_one_sign"), (Str.ofString "read_range_end"), (Str.ofString "read_set"), (Str.ofString "FIGURES"), (Str.ofString "MOST_COUNT"), (Str.ofString "COUNT_SIGNS"), (Str.ofString "count_groups"), (Str.ofString "behind_set"), (Str.ofString "behind_posix"), (Str.ofString "opens_capture"), (Str.ofString "is_name_text"), (Str.ofString "braces_count"), (Str.ofString "take_count"), (Str.ofString "read_name"), (Str.ofString "speak_of"), (Str.ofString "read_named_back"), (Str.ofString "read_numbered_back"), (Str.ofString "width_of"), (Str.ofString "FLAG_LETTERS"), (Str.ofString "MOST_NESTED"), (Str.ofString "LOOKS"), (Str.ofString "NAME_SIGNS"), (Str.ofString "skip_unseen"), (Str.ofString "read_flags"), (Str.ofString "read_inline"), (Str.ofString "read_alternation"), (Str.ofString "read_branch"), (Str.ofString "read_atom"), (Str.ofString "read_counted"), (Str.ofString "read_inner"), (Str.ofString "read_capture"), (Str.ofString "read_look"), (Str.ofString "read_group"), (Str.ofString "is_sign_told"), (Str.ofString "read_escape"), (Str.ofString "parse_pattern"), (Str.ofString "compile_pattern"), (Str.ofString "Frame"), (Str.ofString "Run"), (Str.ofString "MOST_PILED"), (Str.ofString "LEAF_COST"), (Str.ofString "BRACKET_COST"), (Str.ofString "PATTERN_COST"), (Str.ofString "UNTOLD"), (Str.ofString "CallFrame"), (Str.ofString "check_pattern"), (Str.ofString "KEPT_SIGNS"), (Str.ofString "MADE_SIGNS"), (Str.ofString "own_flags"), (Str.ofString "program_for"), (Str.ofString "keep_program"), (Str.ofString "chosen_program"), (Str.ofString "Counter"), (Str.ofString "Limits"), (Str.ofString "_law_patterns"), (Str.ofString "_law_flags"), (Str.ofString "_law_dice"), (Str.ofString "_law_due"), (Str.ofString "_law_asked")]
-- text LOOKA
abbrev rowE : OpenRow := PySem.Challenge.rw_qz0143_01.row
@[reducible] noncomputable def qE : Program := { pE with main := { pE.main with body := [top 140] } }
noncomputable abbrev XtE : Shared → Bool := fun s => xlAt qE [] s && recOk (RowW.records rowE.toRowW) s
theorem keysKF : ∀ P, KAs = (KF P).map (·.1) := fun P => by kernel_rfl
noncomputable abbrev HK : Hook := kHook KF KAs keysKF
noncomputable abbrev SE (w : World) (os : OsState) : Shared := ⟨HF w.params, ⟨[]⟩, {}, 1883, os⟩
theorem openL : ∀ w : World, (fencedOpening treeTable pE w 20000).map (fun s => (s.heap, s.gens, s.drawn, s.toks)) = some (boot_heap w.params, ⟨[]⟩, boot_drawn, boot_toks) :=
  boot_open (by kernel_rfl) (by kernel_rfl) (fun s => by kernel_rfl)
theorem sizeL : ∀ w : World, ((boot_heap w.params).isNs mainGlobals && (⟨[]⟩ : Array GenState).size == 0, (boot_heap w.params).objs.size, (boot_heap w.params).nsMap mainGlobals "__annotations__") = (true, 11, some (.ref 6)) := fun w => by kernel_rfl
theorem treeAll (P : Params) : ((KF P).map fun p => (Nat.blt p.1 1098, (T27 P).get p.1, alive p.2)) = (KF P).map fun p => (true, some p.2, some p.2) := by kernel_rfl
theorem map_get {T : BT} {n : Nat} : ∀ {K : Frag}, (K.map fun p => (Nat.blt p.1 n, T.get p.1, alive p.2)) = (K.map fun p => (true, some p.2, some p.2)) → K.map (fun p => (absHeap T n {}).get? p.1) = K.map fun p => some p.2
  | [], _ => rfl
  | p :: K, h => by
    rw [List.map_cons, List.map_cons, List.cons.injEq] at h
    obtain ⟨h1, h2⟩ := h
    obtain ⟨a, b, c⟩ : _ ∧ _ ∧ _ := by simpa only [Prod.mk.injEq] using h1
    rw [List.map_cons, List.map_cons, map_get h2, abs_get (Nat.le_of_ble_eq_true a) b, c]
theorem yfL (w : World) (os : OsState) : HK.obs (SE w os) = HK.val w := by
  show KAs.map (HF w.params).get? = (KF w.params).map fun p => some p.2
  rw [keysKF w.params, List.map_map]
  exact map_get (treeAll w.params)
theorem lk : ∀ w : World, (fun os => ((staticsOk (importedModules pE.main.body) (boot_heap w.params) (HF w.params) && namesBound pE (HF w.params) && gensDone (SE w os) && laidKept (boot_heap w.params) (HF w.params)),
    openSeen qE LOOSE (importedModules pE.main.body) XtE true (SE w os))) = fun (_ : OsState) => (true, openGood qE LOOSE) := fun w => by kernel_rfl
-- text LOOKB
theorem looksE (w : World) : (fun os => ((staticsOk (importedModules pE.main.body) (boot_heap w.params) (HF w.params) && namesBound pE (HF w.params) && gensDone (SE w os) && laidKept (boot_heap w.params) (HF w.params)),
    openSeen qE LOOSE (importedModules pE.main.body) XtE true (SE w os), HK.obs (SE w os))) = fun (_ : OsState) => (true, openGood qE LOOSE, HK.val w) :=
  funext fun os => by
    have h := congrFun (lk w) os
    rw [yfL w os]
    exact looks_pair (congrArg Prod.fst h) (looks_pair (congrArg Prod.snd h) rfl)
theorem absE (w : World) (os : OsState) : some (st T27 1098 1883 w os).abs = some (SE w os) := by kernel_rfl
theorem leftE : LeftO pE qE LOOSE XtE HK.obs HK.val 20000 true :=
  @LeftO.of_pieces pE qE LOOSE XtE _ HK.obs HK.val 20000 true boot_heap HF ⟨[]⟩ ⟨[]⟩ boot_drawn {} boot_toks 1883 11 (some (.ref 6)) _ openL sizeL (fun w os => (run w os).trans (absE w os)) (by kernel_rfl) looksE
-- text SAID
theorem a1 : sreFenced pE.main = true := by
  rw [PySem.W.Fast.te11788848310118352699]; kernel_rfl
theorem a2 : ((moduleNames pE.main.body).isEmpty || lookedIntoSs (moduleNames pE.main.body) pE.main.body) = true := by
  rw [PySem.W.Fast.te9807087744658564304]; kernel_rfl
theorem a3 : namesResolve pE = true := by
  rw [PySem.W.Fast.te8377067652309620493]; kernel_rfl
theorem a4 : (pE.boundNames.all (fun n => !worldNames.contains n)) = true := by
  rw [PySem.W.Fast.te3471404346716756564, PySem.W.Fast.te18344453789297297638]; kernel_rfl
theorem a6 : (namesMeet pE pE.main.body fun _ n => attrL n) = true := by
  rw [PySem.W.Fast.te17119622794617984870]; kernel_rfl
theorem bare0 : (["vars", "dir", "locals"] : List Str).filter (readsOut pE pE.main.body) = [] := by
  have h : ∀ n, readsOut pE pE.main.body n = !namesMeet pE pE.main.body fun sc x => x != n || !(sc.names.lookup x == some .globalImplicit || sc.names.lookup x == some .globalExplicit) := fun n => rfl
  rw [List.filter_eq_nil_iff]
  intro n hn
  rw [h n, PySem.W.Fast.te17119622794617984870]
  simp only [List.mem_cons, List.mem_singleton, List.not_mem_nil, or_false] at hn
  rcases hn with rfl | rfl | rfl
  · have e : PySem.W.Fast.tw17119622794617984870 pE pE.main.body (fun sc x => x != Str.ofString "vars" || !(sc.names.lookup x == some .globalImplicit || sc.names.lookup x == some .globalExplicit)) = true := by kernel_rfl
    rw [e]; decide
  · have e : PySem.W.Fast.tw17119622794617984870 pE pE.main.body (fun sc x => x != Str.ofString "dir" || !(sc.names.lookup x == some .globalImplicit || sc.names.lookup x == some .globalExplicit)) = true := by kernel_rfl
    rw [e]; decide
  · have e : PySem.W.Fast.tw17119622794617984870 pE pE.main.body (fun sc x => x != Str.ofString "locals" || !(sc.names.lookup x == some .globalImplicit || sc.names.lookup x == some .globalExplicit)) = true := by kernel_rfl
    rw [e]; decide
theorem a5 : noRoadLSs { strict := false, foot := none, bare := [] } pE.main.body = true := by
  rw [PySem.W.Fast.te8326940854005059898]; kernel_rfl
theorem strict0 : (!(importedModules pE.main.body).all cThrough.contains) = false := by kernel_rfl
theorem a5' : noRoadLSs { strict := !(importedModules pE.main.body).all cThrough.contains, foot := none, bare := (["vars", "dir", "locals"] : List Str).filter (readsOut pE pE.main.body) } pE.main.body = true := by
  rw [strict0, bare0]; exact a5
theorem looksOpenE : looksOpen pE = true := by
  unfold looksOpen
  exact look_both (look_both (look_both (look_both (look_both a1 a2) a3) a4) a5') a6
theorem saidE : PySem.Challenge.rw_qz0143_01.wellSaid = true := by
  unfold OpenLaw.wellSaid
  repeat' with_reducible refine look_both ?_ ?_
  · show OpenRow.wellSaid rowE = true
    unfold OpenRow.wellSaid
    repeat' with_reducible refine look_both ?_ ?_
    · unfold OpenRow.partSaid
      repeat' with_reducible refine look_both ?_ ?_
      · exact looksOpenE
      all_goals kernel_rfl
    · kernel_rfl
    · kernel_rfl
  all_goals ((try rw [PySem.W.Fast.te8326940854005059898]); (try rw [PySem.W.Fast.te17119622794617984870]); (try rw [PySem.W.Fast.te10501279942588096481]); (try rw [PySem.W.Fast.te8179353310426384613]); (try rw [PySem.W.Fast.te9558739934217749035]); (try rw [PySem.W.Fast.te16286561074155671207]); (try rw [PySem.W.Fast.named_eq]); kernel_rfl)
-- text HEADF
@[reducible] noncomputable def dE : DefRec := ⟨Str.ofString "law", P119, B119, Sc119, ⟨870, 0, 903, 58⟩⟩
theorem hdefE : defOf qE rowE.name = some (dE, []) := by kernel_rfl
theorem lawAt (P : Params) : nsIn (KF P) mainGlobals (Str.ofString "law") = some (some (.ref 1097)) := by kernel_rfl
/-- what the walk has to show: the call gives True, and all that stood before it stands behind it -/
noncomputable abbrev Ends (s₁ : Shared) : Result → Shared → Prop := fun r s' => r = .ok (.ret (.bool true)) ∧ (∀ b o, s₁.heap.get? b = some o → s'.heap.get? b = some o) ∧ s'.gens = #[] ∧ s'.os = s₁.os
theorem ends_good {w : World} {s₀ s₁ : Shared} {ns : List Int} {r : Result} {s' : Shared} (h : Ends s₁ r s') :
    GoodW rowE.claim (classAt s₀.heap) (ExcName.means s₀.heap) [ofPy (.list (ns.map PyData.int))] s₁ r s' := by
  obtain ⟨rfl, h1, h2, h3⟩ := h
  exact ⟨.inl ⟨.bool true, .bool true, [], rfl, fun _ => rfl, .bool true, by kernel_rfl, unshared_nil⟩, h1, h3, h2⟩
theorem c1 : rowE.toRowW.prog.theDef rowE.name = some (dE.params, dE.body, dE.scope) := by kernel_rfl
theorem c2 : kwWritten? dE.params.kwonlyargs dE.params.kw_defaults = some [] := by kernel_rfl
theorem c3 : (!rowE.writes || rowE.toRowW.records.isEmpty) = true := by kernel_rfl
theorem c4 : chainsOk qE = true := by kernel_rfl
theorem c5 : opensWell rowE.toRowW.prog = true := by kernel_rfl
theorem c6 : (frees rowE.toRowW && rowE.toRowW.within.isEmpty) = true := by kernel_rfl
theorem c7 : rowE.toRowW.prog.bare := ⟨rfl, rfl, rfl, rfl, rfl, by kernel_rfl⟩
theorem fa_is {mg : Str → Option Value} {n : Str} {a b : Addr} (h1 : mg n = some (.ref a)) (h2 : mg n = some (.ref b)) : b = a := by
  rw [h1] at h2
  injection h2 with h2
  injection h2 with h2
  exact h2.symm
theorem head (walk : ∀ (w : World) (s₁ : Shared) (mean : ExcName → Option Value) (mg mb : Str → Option Value) (l : Addr) (vs : List Value) (ns : List Int),
      (KF w.params).In s₁.heap → Top qE (looseW qE LOOSE) mean mg mb s₁.heap → s₁.gens = #[] → s₁.heap.IsList l vs.toArray → IntsAre vs ns → ns.length ≤ 63 →
      codeAny (model pE w) callerA (.call (.ref 1097) ⟨[.ref l], []⟩) (Ends s₁) s₁) : PySem.Challenge.rw_qz0143_01.Holds := by
  refine holds_law saidE fun said => holds_open (r := rowE) (q := qE) (loose := LOOSE) (Xt := XtE) (XP := XL qE []) (Yf := HK.obs) (Ya := HK.val) (YP := HK.says) (N := 20000) (d := dE) (kwd := []) leftE (Hook.of HK) (Hook.keeps HK) (fun s e => xl_of s (Bool.and_eq_true_iff.mp e).1) XL.keeps hdefE c1 c2 (fun s e => recFacts_of (Bool.and_eq_true_iff.mp e).2) c3 said (look_both (look_both c4 c5) c6) c7 ?hw ?hc
  case hw => w_witness2
  intro w s₀ s₁ mg mb G Y fa o pm cd doc dV kV ho hd hcd hD hmg hg args vals as hpre hlay hrd hwl hlo
  have KX : (KF w.params).In s₁.heap := kIn_of Y
  refine Ground.open G ?_
  intro T B D TE TW
  have hfa : fa = 1097 := fa_is (mg_of KX T.g (lawAt w.params)) hmg
  subst hfa
  clear ho hd hcd hD hmg
  wrow_args hpre hlay hrd hwl hlo
  (with_reducible rename Heap.IsList _ _ _ => hL)
  (with_reducible rename IntsAre _ _ => hI)
  (with_reducible rename (¬ (_ : Int) < _) => hc)
  exact enter_call (codeAny_mono (walk w s₁ _ mg mb _ _ _ KX T hg hL hI (by omega)) fun r s' h => (ends_good (w := w) h).toG)
set_option maxHeartbeats 200000
theorem fillAll : True := by
  have hdum : KF = KF ∧ PySem.Challenge.rw_qz0143_01 = PySem.Challenge.rw_qz0143_01 := ⟨rfl, rfl⟩
  revert hdum; k_fill; intro _; trivial
local macro_rules | `(tactic| walk_at $s:str) => do
  let t := Lean.Syntax.mkStrLit ("m " ++ s.getString)
  `(tactic| k_extra $t:str)
-- part A0
noncomputable abbrev TopE (mean : ExcName → Option Value) (mg mb : Str → Option Value) (h : Heap) : Prop := Top qE (looseW qE LOOSE) mean mg mb h
noncomputable abbrev Led := List (Addr × Obj)
/-- an entry of an object's dict -/
noncomputable abbrev En (w : World) (x : String) (t : Nat) (v : Value) : DictEntry := ⟨PyData.keyHash w.params (Str.ofString x), .str (Str.ofString x) t, v⟩
/-- what the ledger bears was in the footprint, or is new -/
noncomputable abbrev Fresh (foot : Led) (h : Heap) (l : Led) : Prop := ∀ q ∈ l, q.1 ∈ foot.map (·.1) ∨ h.get? q.1 = none
/-- all that stood and is none of the footprint stands -/
noncomputable abbrev Keeps (foot : Led) (h h' : Heap) : Prop := ∀ b o, h.get? b = some o → b ∉ foot.map (·.1) → h'.get? b = some o

section
variable {prog : Program} {w : World} {A A₀ : Around} {s : Shared} {K : Frag} {L : Addr} {h₀ base : Heap} {m mg mb : Str → Option Value} {foot : Led} {p : Program} {loose : List Str} {mean : ExcName → Option Value}
theorem own_call {env : Env} {outer : List Env} {R : Result → Shared → Prop} {name qual : Str} {params : Arguments} {body : List Stmt} {scope : Scope} {dV kV doc pm cdv ct oc : Value} {an od : Option Addr} {osl : Array (Option Value)} {f : Addr} {args : Args} {binds : List (Str × Value)}
    (B : Below A₀ base outer h₀) (F : Fr h₀ L s.heap m) (X₀ : K.In h₀) (N : News h₀ L s.heap foot) (T : Top p loose mean mg mb h₀) (hA : A.frames = some (env :: outer)) (hf : env.frame = some L) (hke : env.scope.kind = .function)
    (ho : K.lookup f = some ⟨oc, od, .func (fnOf name qual params body scope dV kV doc pm an cdv ct), osl⟩) (hcd : codeIn K cdv qual = true) (hroom : A.depth < recursionLimit)
    (hbind : BindsTo s (fnOf name qual params body scope dV kV doc pm an cdv ct) args binds) (hloc : ∀ y ∈ binds, scope.names.lookup y.1 = some .local)
    (h : ∀ g L' h₁ tk, Fr h₀ L g m → Keeps foot s.heap g → Fr g L' h₁ (fun y => binds.reverse.lookup y) → News g L' h₁ foot → Below A base (env :: outer) g → K.In g → Top p loose mean mg mb g →
      let e9 := envOf qual scope L' f cdv
      let A9 := A.deeper e9
      wpAny (model prog w) A9 (execs body e9)
        (fun fl s' => LeaveK h₀ L m g R (match fl with | .ret v => v | _ => .none) s')
        (fun e s' => wpAny (model prog w) A9 (leaving e9 e) (fun _ s'' => R (.error e) s'') (fun e' s'' => R (.error e') s'') s')
        { s with heap := h₁, toks := tk })
    (hco : scope.isCoroutine = false) (hgen : scope.isGenerator = false) (hk : scope.kind = .function)
    (hcell : ∀ x ∈ scope.names, x.2 ≠ .cell) : codeAny (model prog w) A (.call (.ref f) args) R s := by
  obtain ⟨FG, BG, st, lv⟩ := groundX (R := R) B F N hA hf hke
  have XS := X₀.keeps F.keep
  refine codeAny_call_def (fd := fnOf name qual params body scope dV kV doc pm an cdv ct) (body := body) (binds := binds) hroom (XS _ _ ho) rfl (T.nolimit.keeps F.keep) (codeRec_of XS hcd) rfl hbind hcell hloc (fun h₁ hns hk₁ => ?_) hco hgen hk
  exact wpAny_mono (h _ s.heap.objs.size h₁ _ FG (fun b o e n => hideAll_get _ e n) ⟨hns, fun b o e => hk₁ b o (of_hideAll _ e), Nat.le_of_eq (hideAll_size _ _)⟩
    (fun q hq => ⟨hk₁ _ _ (N q hq).1, Nat.ne_of_lt (Heap.lt_size (N q hq).1), hideAll_none _ (List.mem_map_of_mem hq)⟩) BG (X₀.keeps st) (T.keeps st)) (fun fl s' hl => lv _ _ hl) fun _ _ y => y
end

/-- A def's contract: from the footprint to the answer and the new ledger; everything else stands as it stood. -/
noncomputable def Spec (w : World) (f : Addr) (args : List Value) (foot : Led) (D U : Nat) (P : Value → Led → Prop) : Prop :=
  ∀ (mean : ExcName → Option Value) (mg mb : Str → Option Value) (dp un : Nat) (gd : Option (List Code)) (cn : Str) (cs : Scope) (a : Addr) (ccd : Value) (cl : List (Str × Addr)) (outer : List Env) (A₀ : Around) (base h₀ : Heap) (L : Addr) (m : Str → Option Value) (s : Shared) (Q E : Value → Shared → Prop),
    Below A₀ base outer h₀ → Fr h₀ L s.heap m → (KF w.params).In h₀ → News h₀ L s.heap foot → TopE mean mg mb h₀ → cs.kind = .function → dp + D < recursionLimit → un + U < cLine →
    (∀ v foot' h' tk', P v foot' → Fr h₀ L h' m → News h₀ L h' foot' → Keeps foot s.heap h' → Fresh foot s.heap foot' → Q v { s with heap := h', toks := tk' }) →
    wpAny (model pE w) (ktrTop dp un gd cn cs L a ccd cl outer) (call (.ref f) args) Q E s
/-- the end, with a part of the ledger -/
theorem spec_fin {h₀ h' g : Heap} {L L' : Addr} {m m' : Str → Option Value} {foot foot' news : Led} {s : Shared} {P : Value → Led → Prop} {Q : Value → Shared → Prop} {v : Value} {tk' : Nat}
    (ret : ∀ v foot' h' tk', P v foot' → Fr h₀ L h' m → News h₀ L h' foot' → Keeps foot s.heap h' → Fresh foot s.heap foot' → Q v { s with heap := h', toks := tk' })
    (hg : Keeps foot s.heap g) (G : Fr g L' h' m') (NG : News g L' h' news) (F : Fr h₀ L h' m) (N : News h₀ L h' news) (hP : P v foot') (sub : ∀ q ∈ foot', q ∈ news) : Q v { s with heap := h', toks := tk' } :=
  ret v foot' h' tk' hP F (fun q hq => N q (sub q hq)) (fun b o hb hn => G.keep b o (hg b o hb hn)) fun q hq => by
    by_cases hin : q.1 ∈ foot.map (·.1)
    · exact .inl hin
    · refine .inr ?_
      cases e : s.heap.get? q.1 with
      | none => rfl
      | some o =>
        have := hg _ _ e hin
        rw [(NG q (sub q hq)).2.2] at this
        cases this
theorem spec_end {h₀ h' g : Heap} {L L' : Addr} {m m' : Str → Option Value} {foot foot' : Led} {s : Shared} {P : Value → Led → Prop} {Q : Value → Shared → Prop} {v : Value} {tk' : Nat}
    (ret : ∀ v foot' h' tk', P v foot' → Fr h₀ L h' m → News h₀ L h' foot' → Keeps foot s.heap h' → Fresh foot s.heap foot' → Q v { s with heap := h', toks := tk' })
    (hg : Keeps foot s.heap g) (G : Fr g L' h' m') (NG : News g L' h' foot') (F : Fr h₀ L h' m) (N : News h₀ L h' foot') (hP : P v foot') : Q v { s with heap := h', toks := tk' } :=
  ret v foot' h' tk' hP F N (fun b o hb hn => G.keep b o (hg b o hb hn)) fun q hq => by
    by_cases hin : q.1 ∈ foot.map (·.1)
    · exact .inl hin
    · refine .inr ?_
      cases e : s.heap.get? q.1 with
      | none => rfl
      | some o =>
        have := hg _ _ e hin
        rw [(NG q hq).2.2] at this
        cases this
theorem led_ne {h₀ h : Heap} {L a b : Addr} {oa ob : Obj} {l : Led} (N : News h₀ L h l) (ha : (a, oa) ∈ l) (hb : (b, ob) ∈ l) (hne : oa.cls ≠ ob.cls) : a ≠ b := fun e => by
  have e1 := (N _ ha).1
  have e2 := (N _ hb).1
  dsimp only at e1 e2
  rw [e, e2] at e1
  injection e1 with e1
  exact hne (congrArg Obj.cls e1).symm
section
variable {w : World} {f : Addr} {args : List Value} {foot : Led} {D U : Nat} {P : Value → Led → Prop} {P' : Value → Prop}
variable {mean : ExcName → Option Value} {mg mb : Str → Option Value} {dp un : Nat} {gd : Option (List Code)} {cn : Str} {cs : Scope} {a : Addr} {ccd : Value} {cl : List (Str × Addr)} {outer : List Env} {A₀ : Around} {base h₀ : Heap} {L : Addr} {m : Str → Option Value} {s : Shared} {Q E : Value → Shared → Prop} {news rest : Led}
/-- a contract that changes nothing, under a larger ledger -/
theorem Spec.ro (S : Spec w f args foot D U P) (hP : ∀ v l, P v l → P' v ∧ l = foot) (B : Below A₀ base outer h₀) (F : Fr h₀ L s.heap m) (X : (KF w.params).In h₀) (N : News h₀ L s.heap news) (hs : ∀ q ∈ foot, q ∈ news) (T : TopE mean mg mb h₀) (hk : cs.kind = .function) (hd : dp + D < recursionLimit) (hu : un + U < cLine)
    (ret : ∀ v h' tk', P' v → Fr h₀ L h' m → News h₀ L h' news → Q v { s with heap := h', toks := tk' }) :
    wpAny (model pE w) (ktrTop dp un gd cn cs L a ccd cl outer) (call (.ref f) args) Q E s := by
  refine S mean mg mb dp un gd cn cs a ccd cl outer A₀ base h₀ L m s Q E B F X (fun q hq => N q (hs q hq)) T hk hd hu fun v l h' tk' hp F' N' K Z => ?_
  obtain ⟨hv, rfl⟩ := hP _ _ hp
  refine ret v h' tk' hv F' fun q hq => ?_
  by_cases hin : q.1 ∈ l.map (·.1)
  · obtain ⟨r, hr, e⟩ := List.mem_map.mp hin
    have e1 := (N r (hs r hr)).1
    rw [e, (N q hq).1] at e1
    injection e1 with e1
    have e2 := (N' r hr).1
    rw [e, ← e1] at e2
    exact ⟨e2, (N q hq).2⟩
  · exact ⟨K q.1 q.2 (N q hq).1 hin, (N q hq).2⟩
theorem Spec.roV {c : Value} (S : Spec w f args foot D U (fun v l => v = c ∧ l = foot)) (B : Below A₀ base outer h₀) (F : Fr h₀ L s.heap m) (X : (KF w.params).In h₀) (N : News h₀ L s.heap news) (hs : ∀ q ∈ foot, q ∈ news) (T : TopE mean mg mb h₀) (hk : cs.kind = .function) (hd : dp + D < recursionLimit) (hu : un + U < cLine)
    (ret : ∀ h' tk', Fr h₀ L h' m → News h₀ L h' news → Q c { s with heap := h', toks := tk' }) :
    wpAny (model pE w) (ktrTop dp un gd cn cs L a ccd cl outer) (call (.ref f) args) Q E s :=
  Spec.ro (P' := fun v => v = c) S (fun _ _ h => h) B F X N hs T hk hd hu fun v h' tk' hv F' N' => by subst hv; exact ret h' tk' F' N'
theorem Spec.roS {x : Str} (S : Spec w f args foot D U (fun v l => (∃ t, v = .str x t) ∧ l = foot)) (B : Below A₀ base outer h₀) (F : Fr h₀ L s.heap m) (X : (KF w.params).In h₀) (N : News h₀ L s.heap news) (hs : ∀ q ∈ foot, q ∈ news) (T : TopE mean mg mb h₀) (hk : cs.kind = .function) (hd : dp + D < recursionLimit) (hu : un + U < cLine)
    (ret : ∀ t h' tk', Fr h₀ L h' m → News h₀ L h' news → Q (.str x t) { s with heap := h', toks := tk' }) :
    wpAny (model pE w) (ktrTop dp un gd cn cs L a ccd cl outer) (call (.ref f) args) Q E s :=
  Spec.ro (P' := fun v => ∃ t, v = .str x t) S (fun _ _ h => h) B F X N hs T hk hd hu fun v h' tk' ⟨t, hv⟩ F' N' => by subst hv; exact ret t h' tk' F' N'
/-- a contract under a larger ledger -/
theorem Spec.rw (S : Spec w f args foot D U P) (B : Below A₀ base outer h₀) (F : Fr h₀ L s.heap m) (X : (KF w.params).In h₀) (N : News h₀ L s.heap news) (hs : ∀ q ∈ foot, q ∈ news) (hr : ∀ q ∈ rest, q ∈ news ∧ q.1 ∉ foot.map (·.1)) (T : TopE mean mg mb h₀) (hk : cs.kind = .function) (hd : dp + D < recursionLimit) (hu : un + U < cLine)
    (ret : ∀ v l h' tk', P v l → Fr h₀ L h' m → News h₀ L h' (l ++ rest) → (∀ q ∈ l, ∀ r ∈ rest, q.1 ≠ r.1) → Q v { s with heap := h', toks := tk' }) :
    wpAny (model pE w) (ktrTop dp un gd cn cs L a ccd cl outer) (call (.ref f) args) Q E s := by
  refine S mean mg mb dp un gd cn cs a ccd cl outer A₀ base h₀ L m s Q E B F X (fun q hq => N q (hs q hq)) T hk hd hu fun v l h' tk' hp F' N' K Z => ?_
  refine ret v l h' tk' hp F' (fun q hq => ?_) fun q hq r hrr e => ?_
  · rcases List.mem_append.mp hq with hq | hq
    · exact N' q hq
    · obtain ⟨h1, h2⟩ := hr q hq
      exact ⟨K q.1 q.2 (N q h1).1 h2, (N q h1).2⟩
  · obtain ⟨h1, h2⟩ := hr r hrr
    rcases Z q hq with z | z
    · exact h2 (e ▸ z)
    · rw [e, (N r h1).1] at z
      cases z
end
noncomputable abbrev ptObj (d : Addr) : Obj := instObj 539 d
noncomputable abbrev ptDict (w : World) (t1 t2 t3 t4 t5 t6 t7 tx u1 u2 u3 u4 n : Nat) (x : Str) (tot k gr de : Int) (nm sp : Addr) : Obj :=
  dictOf [En w "text" t1 (.str x tx), En w "total" t2 (.int tot u1), En w "at" t3 (.int k u2), En w "groups" t4 (.int gr u3), En w "depth" t5 (.int de u4), En w "names" t6 (.ref nm), En w "spoken" t7 (.ref sp)] n
theorem led_neO {h₀ h : Heap} {L a b : Addr} {oa ob : Obj} {l : Led} (N : News h₀ L h l) (ha : (a, oa) ∈ l) (hb : (b, ob) ∈ l) (hne : oa ≠ ob) : a ≠ b := fun e => by
  have e1 := (N _ ha).1
  have e2 := (N _ hb).1
  dsimp only at e1 e2
  rw [e, e2] at e1
  injection e1 with e1
  exact hne e1.symm
/-- one entry picked out of a ledger -/
inductive Sel : Addr × Obj → Led → Led → Prop
  | head {q : Addr × Obj} {l : Led} : Sel q (q :: l) l
  | tail {q r : Addr × Obj} {l l' : Led} : Sel q l l' → Sel q (r :: l) (r :: l')
/-- a footprint picked out of a ledger -/
inductive Take : Led → Led → Led → Prop
  | nil {news : Led} : Take [] news news
  | all {news : Led} : Take news news []
  | cons {q : Addr × Obj} {foot news n' rest : Led} : Sel q news n' → Take foot n' rest → Take (q :: foot) news rest
theorem Sel.mem {q : Addr × Obj} {l l' : Led} (h : Sel q l l') : q ∈ l ∧ ∀ r ∈ l', r ∈ l := by
  induction h with
  | head => exact ⟨.head _, fun _ h => .tail _ h⟩
  | tail _ ih => exact ⟨.tail _ ih.1, fun r h => by cases h with | head => exact .head _ | tail _ h => exact .tail _ (ih.2 r h)⟩
theorem Take.mem {foot news rest : Led} (h : Take foot news rest) : (∀ q ∈ foot, q ∈ news) ∧ ∀ r ∈ rest, r ∈ news := by
  induction h with
  | nil => exact ⟨fun _ h => (nomatch h), fun _ h => h⟩
  | all => exact ⟨fun _ h => h, fun _ h => (nomatch h)⟩
  | cons s _ ih => exact ⟨fun q h => (by cases h with | head => exact s.mem.1 | tail _ h => exact s.mem.2 _ (ih.1 q h)), fun r h => s.mem.2 _ (ih.2 r h)⟩
noncomputable def Apart (rest foot : Led) : Prop := ∀ q ∈ rest, ∀ r ∈ foot, q.1 ≠ r.1
noncomputable def AllNe (a : Addr) : Led → Prop
  | [] => True
  | r :: l => @Ne Nat a r.1 ∧ AllNe a l
noncomputable def AllApart : Led → Led → Prop
  | [], _ => True
  | q :: l, r => AllNe q.1 r ∧ AllApart l r
theorem allNe_of {a : Addr} : ∀ {l : Led}, (∀ r ∈ l, a ≠ r.1) → AllNe a l
  | [], _ => trivial
  | r :: _, h => ⟨h r (.head _), allNe_of fun q hq => h q (.tail _ hq)⟩
theorem allNe_at {a : Addr} : ∀ {l : Led}, AllNe a l → ∀ r ∈ l, a ≠ r.1
  | [], _, _, h => (nomatch h)
  | r :: l, h, q, hq => by
    rcases List.mem_cons.mp hq with e | hq
    · rw [e]; exact h.1
    · exact allNe_at h.2 q hq
theorem allApart_of {r : Led} : ∀ {l : Led}, (∀ q ∈ l, ∀ x ∈ r, q.1 ≠ x.1) → AllApart l r
  | [], _ => trivial
  | q :: _, h => ⟨allNe_of (h q (.head _)), allApart_of fun x hx => h x (.tail _ hx)⟩
theorem apart_nil {foot : Led} : Apart [] foot := fun _ h => nomatch h
theorem apart_cons {a : Addr} {o : Obj} {l foot : Led} (h : AllNe a foot) (k : Apart l foot) : Apart ((a, o) :: l) foot := fun q hq => by
  cases hq with | head => exact allNe_at h | tail _ hq => exact k q hq
theorem allNe_nil {a : Addr} : AllNe a [] := trivial
theorem allNe_cons {a b : Addr} {o : Obj} {l : Led} (h : a ≠ b) (k : AllNe a l) : AllNe a ((b, o) :: l) := ⟨h, k⟩
section
variable {w : World} {f : Addr} {args : List Value} {foot : Led} {D U : Nat} {P : Value → Led → Prop} {P' : Value → Prop}
variable {mean : ExcName → Option Value} {mg mb : Str → Option Value} {dp un : Nat} {gd : Option (List Code)} {cn : Str} {cs : Scope} {a : Addr} {ccd : Value} {cl : List (Str × Addr)} {outer : List Env} {A₀ : Around} {base h₀ : Heap} {L : Addr} {m : Str → Option Value} {s : Shared} {Q E : Value → Shared → Prop} {news rest : Led}
theorem Spec.tk (S : Spec w f args foot D U P) (B : Below A₀ base outer h₀) (F : Fr h₀ L s.heap m) (X : (KF w.params).In h₀) (N : News h₀ L s.heap news) (tk : Take foot news rest) (ap : Apart rest foot) (T : TopE mean mg mb h₀) (hk : cs.kind = .function) (hd : dp + D < recursionLimit) (hu : un + U < cLine)
    (ret : ∀ v l h' tk', P v l → Fr h₀ L h' m → News h₀ L h' (l ++ rest) → AllApart l rest → Q v { s with heap := h', toks := tk' }) :
    wpAny (model pE w) (ktrTop dp un gd cn cs L a ccd cl outer) (call (.ref f) args) Q E s :=
  Spec.rw S B F X N tk.mem.1 (fun q hq => ⟨tk.mem.2 q hq, fun h => by obtain ⟨r, hr, e⟩ := List.mem_map.mp h; exact ap q hq r hr e.symm⟩) T hk hd hu fun v l h' tk' hp F' N' ne => ret v l h' tk' hp F' N' (allApart_of ne)
end
/-- a tail of tuples alone -/
noncomputable def TupsIn (X : Led) : Prop := ∀ q ∈ X, q.2.cls = .type "tuple"
theorem sub_refl {X : Led} : ∀ q ∈ X, q ∈ X := fun _ h => h
theorem sub_cons {X l : Led} {a : Addr × Obj} (h : ∀ q ∈ X, q ∈ l) : ∀ q ∈ X, q ∈ a :: l := fun q hq => .tail _ (h q hq)
theorem tail_ne {h₀ h : Heap} {L b : Addr} {ob : Obj} {X l : Led} (N : News h₀ L h l) (hX : TupsIn X) (sub : ∀ q ∈ X, q ∈ l) (hb : (b, ob) ∈ l) (hc : ob.cls ≠ .type "tuple") : ∀ q ∈ X, q.1 ≠ b := fun q hq e => by
  have e1 := (N _ (sub q hq)).1
  have e2 := (N _ hb).1
  dsimp only at e1 e2
  rw [e, e2] at e1
  injection e1 with e1
  exact hc (e1 ▸ hX q hq)
theorem tail_apart {h₀ h : Heap} {L : Addr} {X l foot : Led} (N : News h₀ L h l) (hX : TupsIn X) (sub : ∀ q ∈ X, q ∈ l) (hf : ∀ r ∈ foot, r ∈ l ∧ r.2.cls ≠ .type "tuple") : Apart X foot := fun q hq r hr => tail_ne N hX sub (hf r hr).1 (hf r hr).2 q hq
theorem both_nil {l : Led} : ∀ r ∈ ([] : Led), r ∈ l ∧ r.2.cls ≠ .type "tuple" := fun _ h => nomatch h
theorem both_cons {foot l : Led} {a : Addr} {o : Obj} (h : (a, o) ∈ l) (hc : o.cls ≠ .type "tuple") (k : ∀ r ∈ foot, r ∈ l ∧ r.2.cls ≠ .type "tuple") : ∀ r ∈ (a, o) :: foot, r ∈ l ∧ r.2.cls ≠ .type "tuple" := List.forall_mem_cons.mpr ⟨⟨h, hc⟩, k⟩
noncomputable abbrev tupObj (vs : List Value) : Obj := { cls := .type "tuple", data := .seq vs.toArray }
noncomputable abbrev tup2 (a b : Value) : Obj := tupObj [a, b]
noncomputable abbrev seqObj (z : Nat) (l : Addr) : Obj := tupObj [.str (Str.ofString "seq") z, .ref l]
noncomputable abbrev signObj (z1 : Nat) (c : Str) (z2 : Nat) (b : Bool) : Obj := tupObj [.str (Str.ofString "sign") z1, .str c z2, .bool b]
/-- the signs read, one after the other -/
inductive Signs (fb : Bool) (X : Led) : List Str → List Value → Prop
  | nil : Signs fb X [] []
  | cons {t : Addr} {z1 z2 : Nat} {c : Str} {cs : List Str} {vs : List Value} : (t, signObj z1 c z2 fb) ∈ X → Signs fb X cs vs → Signs fb X (c :: cs) (.ref t :: vs)
/-- a contract whose ledger ends in a tail of tuples -/
noncomputable def Post (P : Value → Led → Led → Prop) (v : Value) (l : Led) : Prop := ∃ l0 X, l = l0 ++ X ∧ TupsIn X ∧ P v l0 X
/-- what a branch is read to -/
inductive BrP (w : World) (x fl : Str) (tw : Nat) (k' : Int) (cs : List Str) (fb : Bool) (p d : Addr) (t1 t2 t3 t4 t5 t6 t7 tx u1 u3 u4 : Nat) (tot gr de : Int) (nm sp : Addr) (v : Value) (l : Led) (X : Led) : Prop
  | mk (r : Addr) (q : Addr) (l1 : Addr) (vs : List Value) (z1 : Nat) (z2 : Nat) (u2 : Nat) : (v = .ref r) → (l = [(r, tup2 (.ref q) (.str fl tw)), (q, seqObj z1 l1), (l1, listOf vs.toArray z2), (p, ptObj d), (d, ptDict w t1 t2 t3 t4 t5 t6 t7 tx u1 u2 u3 u4 7 x tot k' gr de nm sp)]) → (Signs fb X cs vs) → BrP w x fl tw k' cs fb p d t1 t2 t3 t4 t5 t6 t7 tx u1 u3 u4 tot gr de nm sp v l X
noncomputable def BrSpec (w : World) (x fl : Str) (k k' : Int) (cs : List Str) (fb : Bool) : Prop :=
  ∀ (p d : Addr) (tw t1 t2 t3 t4 t5 t6 t7 tx u1 u2 u3 u4 : Nat) (tot gr de : Int) (nm sp : Addr),
    Spec w 775 [.ref p, .str fl tw] [(p, ptObj d), (d, ptDict w t1 t2 t3 t4 t5 t6 t7 tx u1 u2 u3 u4 7 x tot k gr de nm sp)] 10 90 (Post (BrP w x fl tw k' cs fb p d t1 t2 t3 t4 t5 t6 t7 tx u1 u3 u4 tot gr de nm sp))
inductive AltP (w : World) (x : Str) (k' : Int) (cs : List Str) (fb : Bool) (p d : Addr) (t1 t2 t3 t4 t5 t6 t7 tx u1 u3 u4 : Nat) (tot gr de : Int) (nm sp : Addr) (v : Value) (l : Led) (X : Led) : Prop
  | mk (q : Addr) (l1 : Addr) (vs : List Value) (z1 : Nat) (z2 : Nat) (u2 : Nat) : (v = .ref q) → (l = [(q, seqObj z1 l1), (l1, listOf vs.toArray z2), (p, ptObj d), (d, ptDict w t1 t2 t3 t4 t5 t6 t7 tx u1 u2 u3 u4 7 x tot k' gr de nm sp)]) → (Signs fb X cs vs) → AltP w x k' cs fb p d t1 t2 t3 t4 t5 t6 t7 tx u1 u3 u4 tot gr de nm sp v l X
theorem allApart_left {X r : Led} : ∀ {l : Led}, AllApart (l ++ X) r → AllApart l r
  | [], _ => trivial
  | _ :: _, h => ⟨h.1, allApart_left h.2⟩
section
variable {w : World} {f : Addr} {args : List Value} {foot : Led} {D U : Nat} {P : Value → Led → Led → Prop}
variable {mean : ExcName → Option Value} {mg mb : Str → Option Value} {dp un : Nat} {gd : Option (List Code)} {cn : Str} {cs : Scope} {a : Addr} {ccd : Value} {cl : List (Str × Addr)} {outer : List Env} {A₀ : Around} {base h₀ : Heap} {L : Addr} {m : Str → Option Value} {s : Shared} {Q E : Value → Shared → Prop} {news rest : Led}
theorem Spec.tkX (S : Spec w f args foot D U (Post P)) (B : Below A₀ base outer h₀) (F : Fr h₀ L s.heap m) (X : (KF w.params).In h₀) (N : News h₀ L s.heap news) (tk : Take foot news rest) (ap : Apart rest foot) (T : TopE mean mg mb h₀) (hk : cs.kind = .function) (hd : dp + D < recursionLimit) (hu : un + U < cLine)
    (ret : ∀ v l X h' tk', TupsIn X → P v l X → Fr h₀ L h' m → News h₀ L h' (l ++ (rest ++ X)) → AllApart l rest → Q v { s with heap := h', toks := tk' }) :
    wpAny (model pE w) (ktrTop dp un gd cn cs L a ccd cl outer) (call (.ref f) args) Q E s :=
  Spec.tk S B F X N tk ap T hk hd hu fun v l h' tk' ⟨l0, Y, e, hY, hp⟩ F' N' ne => ret v l0 Y h' tk' hY hp F' (fun q hq => N' q (by
    rw [e]
    rcases List.mem_append.mp hq with hq | hq
    · exact List.mem_append_left _ (List.mem_append_left _ hq)
    · rcases List.mem_append.mp hq with hq | hq
      · exact List.mem_append_right _ hq
      · exact List.mem_append_left _ (List.mem_append_right _ hq))) (allApart_left (e ▸ ne))
end
theorem BrSpec.at {w : World} {x fl : Str} {k k' : Int} {cs : List Str} {fb : Bool} (h : BrSpec w x fl k k' cs fb) {p d : Addr} {tw t1 t2 t3 t4 t5 t6 t7 tx u1 u2 u3 u4 : Nat} {tot gr de : Int} {nm sp : Addr} :
    Spec w 775 [.ref p, .str fl tw] [(p, ptObj d), (d, ptDict w t1 t2 t3 t4 t5 t6 t7 tx u1 u2 u3 u4 7 x tot k gr de nm sp)] 10 90 (Post (BrP w x fl tw k' cs fb p d t1 t2 t3 t4 t5 t6 t7 tx u1 u3 u4 tot gr de nm sp)) := h _ _ _ _ _ _ _ _ _ _ _ _ _ _ _ _ _ _ _ _
theorem pk0 {a b : Nat} {r : Prop} (h : a < b ∧ r) : a ≠ b := Nat.ne_of_lt h.1
theorem pk1 {a b : Nat} {p0 r : Prop} (h : p0 ∧ a < b ∧ r) : a ≠ b := Nat.ne_of_lt h.2.1
theorem pk2 {a b : Nat} {p0 p1 r : Prop} (h : p0 ∧ p1 ∧ a < b ∧ r) : a ≠ b := Nat.ne_of_lt h.2.2.1
theorem pk3 {a b : Nat} {p0 p1 p2 r : Prop} (h : p0 ∧ p1 ∧ p2 ∧ a < b ∧ r) : a ≠ b := Nat.ne_of_lt h.2.2.2.1
theorem pk4 {a b : Nat} {p0 p1 p2 p3 r : Prop} (h : p0 ∧ p1 ∧ p2 ∧ p3 ∧ a < b ∧ r) : a ≠ b := Nat.ne_of_lt h.2.2.2.2.1
theorem pk5 {a b : Nat} {p0 p1 p2 p3 p4 r : Prop} (h : p0 ∧ p1 ∧ p2 ∧ p3 ∧ p4 ∧ a < b ∧ r) : a ≠ b := Nat.ne_of_lt h.2.2.2.2.2.1
theorem pk6 {a b : Nat} {p0 p1 p2 p3 p4 p5 r : Prop} (h : p0 ∧ p1 ∧ p2 ∧ p3 ∧ p4 ∧ p5 ∧ a < b ∧ r) : a ≠ b := Nat.ne_of_lt h.2.2.2.2.2.2.1
theorem pk7 {a b : Nat} {p0 p1 p2 p3 p4 p5 p6 r : Prop} (h : p0 ∧ p1 ∧ p2 ∧ p3 ∧ p4 ∧ p5 ∧ p6 ∧ a < b ∧ r) : a ≠ b := Nat.ne_of_lt h.2.2.2.2.2.2.2.1
theorem pk8 {a b : Nat} {p0 p1 p2 p3 p4 p5 p6 p7 r : Prop} (h : p0 ∧ p1 ∧ p2 ∧ p3 ∧ p4 ∧ p5 ∧ p6 ∧ p7 ∧ a < b ∧ r) : a ≠ b := Nat.ne_of_lt h.2.2.2.2.2.2.2.2.1
theorem pk9 {a b : Nat} {p0 p1 p2 p3 p4 p5 p6 p7 p8 r : Prop} (h : p0 ∧ p1 ∧ p2 ∧ p3 ∧ p4 ∧ p5 ∧ p6 ∧ p7 ∧ p8 ∧ a < b ∧ r) : a ≠ b := Nat.ne_of_lt h.2.2.2.2.2.2.2.2.2.1
theorem pk10 {a b : Nat} {p0 p1 p2 p3 p4 p5 p6 p7 p8 p9 r : Prop} (h : p0 ∧ p1 ∧ p2 ∧ p3 ∧ p4 ∧ p5 ∧ p6 ∧ p7 ∧ p8 ∧ p9 ∧ a < b ∧ r) : a ≠ b := Nat.ne_of_lt h.2.2.2.2.2.2.2.2.2.2.1
theorem pk11 {a b : Nat} {p0 p1 p2 p3 p4 p5 p6 p7 p8 p9 p10 r : Prop} (h : p0 ∧ p1 ∧ p2 ∧ p3 ∧ p4 ∧ p5 ∧ p6 ∧ p7 ∧ p8 ∧ p9 ∧ p10 ∧ a < b ∧ r) : a ≠ b := Nat.ne_of_lt h.2.2.2.2.2.2.2.2.2.2.2.1
theorem pk12 {a b : Nat} {p0 p1 p2 p3 p4 p5 p6 p7 p8 p9 p10 p11 r : Prop} (h : p0 ∧ p1 ∧ p2 ∧ p3 ∧ p4 ∧ p5 ∧ p6 ∧ p7 ∧ p8 ∧ p9 ∧ p10 ∧ p11 ∧ a < b ∧ r) : a ≠ b := Nat.ne_of_lt h.2.2.2.2.2.2.2.2.2.2.2.2.1
theorem un1 {u N K c : Nat} (h : u + N < c) (e : Nat.ble K N = true) : u + K < c := Nat.lt_of_le_of_lt (Nat.add_le_add_left (Nat.le_of_ble_eq_true e) u) h
theorem un2 {u N K J c : Nat} (h : u + N < c) (e : Nat.ble (K + J) N = true) : u + K + J < c := by
  rw [Nat.add_assoc]; exact un1 h e
theorem un3 {u N K J I c : Nat} (h : u + N < c) (e : Nat.ble (K + J + I) N = true) : u + K + J + I < c := by
  rw [Nat.add_assoc u, Nat.add_assoc u]; exact un1 h e
theorem un4 {u N K J I H c : Nat} (h : u + N < c) (e : Nat.ble (K + J + I + H) N = true) : u + K + J + I + H < c := by
  rw [Nat.add_assoc u, Nat.add_assoc u, Nat.add_assoc u]; exact un1 h e
theorem off1 {a I C D : Addr} {o : Obj} {l : Led} (h : PyProof.Rows.LCg.Off3 I C D l) (m : (a, o) ∈ l) : @Ne Nat a I := (h.mem _ m).1
theorem off2 {a I C D : Addr} {o : Obj} {l : Led} (h : PyProof.Rows.LCg.Off3 I C D l) (m : (a, o) ∈ l) : @Ne Nat a C := (h.mem _ m).2.1
theorem off3 {a I C D : Addr} {o : Obj} {l : Led} (h : PyProof.Rows.LCg.Off3 I C D l) (m : (a, o) ∈ l) : @Ne Nat a D := (h.mem _ m).2.2
section
variable {M : Model} {A : Around} {E : Value → Shared → Prop} {g : Array GenState} {d : Drawn} {t : Nat} {o : OsState} {h h₀ : Heap} {L a : Addr} {m : Str → Option Value} {cn x : Str} {cs : Scope} {ccd v : Value} {cl : List (Str × Addr)} {news : Led} {env : Env} {k : Nat} {pos : Pos}
theorem const_s9 {Q : Value → Shared → Prop} (H : ∀ u, Q (.str x t) ⟨h, g, d, u, o⟩) : wpAny M A (eval (.Constant (.str x) k pos) env) Q E ⟨h, g, d, t, o⟩ := Constant_str (H _)
theorem const_i9 {i : Int} {Q : Value → Shared → Prop} (H : ∀ u, Q (.int i t) ⟨h, g, d, u, o⟩) : wpAny M A (eval (.Constant (.int i) k pos) env) Q E ⟨h, g, d, t, o⟩ := wpAny_Constant_int (H _)
/-- a name set -/
@[reducible] noncomputable def upd9 (m : Str → Option Value) (x : Str) (v : Value) : Str → Option Value := fun y => if y = x then some v else m y
theorem store9 {Q : PUnit → Shared → Prop} (F : Fr h₀ L h m) (N : News h₀ L h news) (H : ∀ h' u, Fr h₀ L h' (upd9 m x v) → News h₀ L h' news → Q () ⟨h', g, d, u, o⟩)
    (hk : cs.kind = .function := by rfl) (hx : (envX cn cs L a ccd cl).kindOf x = some .local := by rfl) : wpAny M A (storeName (envX cn cs L a ccd cl) x v) Q E ⟨h, g, d, t, o⟩ := storeX_L F N (fun h' F N => H h' _ F N) hk hx
theorem list9 {vs : List Value} {Q : Value → Shared → Prop} (F : Fr h₀ L h m) (N : News h₀ L h news) (H : ∀ l h', Fr h₀ L h' m → News h₀ L h' ((l, listOf vs.toArray 0) :: news) → (∀ p ∈ news, p.1 < l) → Q (.ref l) ⟨h', g, d, t, o⟩) (hsz : vs.length ≤ sizeLine := by size_fits) : wpAny M A (newList vs) Q E ⟨h, g, d, t, o⟩ :=
  newList_K (s := ⟨h, g, d, t, o⟩) F N H hsz
end
section
variable {prog : Program} {w : World} {A : Around} {E : Value → Shared → Prop} {g : Array GenState} {d : Drawn} {t : Nat} {o : OsState} {h h₀ : Heap} {L : Addr} {m : Str → Option Value} {news news' : Led} {K : Frag} {x dx C : Addr} {ox : Obj} {es es' : List DictEntry} {n n' : Nat} {name : Str} {v : Value}
theorem set9 {Q : Unit → Shared → Prop} (F : Fr h₀ L h m) (X₀ : K.In h₀) (N : News h₀ L h news) (I : InstAt h x ox C (some (dictOf es n))) (hd : ox.dict = some dx)
    (hs : findIn K (.ref C) "__setattr__" = some (some (.builtin "object.__setattr__"))) (hp : plainOver K C = true) (ht : takerIn K C name = some none) (hh : hasDictIn K C = true) (hl : (getL name es).isSome = true)
    (e : (putL name (PyData.keyHash w.params name) (.str name (t + 1)) v es, putN name es n) = (es', n')) (U : Upd dx (dictOf es n) (dictOf es' n') news news') (hz : es'.length ≤ 1000)
    (H : ∀ h' u, Fr h₀ L h' m → News h₀ L h' news' → Q () ⟨h', g, d, u, o⟩) : wpAny (model prog w) A (setAttr (.ref x) name v) Q E ⟨h, g, d, t, o⟩ :=
  set_dict (s := ⟨h, g, d, t, o⟩) F X₀ N I hd hs hp ht hh hl e U hz (fun h' F N => H h' _ F N)
end
theorem code_def9 {prog : Program} {w : World} {A A₀ : Around} {s : Shared} {K : Frag} {L : Addr} {h₀ base : Heap} {m mg mb : Str → Option Value} {news : Led} {p : Program} {loose : List Str} {mean : ExcName → Option Value} {env : Env} {outer : List Env} {R : Result → Shared → Prop} {name qual : Str} {params : Arguments} {body : List Stmt} {scope : Scope} {dV kV doc pm cdv ct oc : Value} {an od : Option Addr} {osl : Array (Option Value)} {f : Addr} {args : Args} {binds : List (Str × Value)}
    (B : Below A₀ base outer h₀) (F : Fr h₀ L s.heap m) (X₀ : K.In h₀) (N : News h₀ L s.heap news) (T : Top p loose mean mg mb h₀) (hA : A.frames = some (env :: outer)) (hf : env.frame = some L) (hke : env.scope.kind = .function)
    (ho : K.lookup f = some ⟨oc, od, .func (fnOf name qual params body scope dV kV doc pm an cdv ct), osl⟩) (hcd : codeIn K cdv qual = true) (hroom : A.depth < recursionLimit)
    (hbind : BindsTo s (fnOf name qual params body scope dV kV doc pm an cdv ct) args binds) (hloc : ∀ y ∈ binds, scope.names.lookup y.1 = some .local)
    (h : ∀ g L' h₁ tk, Fr h₀ L g m → Fr g L' h₁ (fun y => binds.reverse.lookup y) → News g L' h₁ news → Below A base (env :: outer) g → K.In g → Top p loose mean mg mb g →
      let e9 := envOf qual scope L' f cdv
      let A9 := A.deeper e9
      wpAny (model prog w) A9 (execs body e9)
        (fun fl s' => LeaveK h₀ L m g R (match fl with | .ret v => v | _ => .none) s')
        (fun e s' => wpAny (model prog w) A9 (leaving e9 e) (fun _ s'' => R (.error e) s'') (fun e' s'' => R (.error e') s'') s')
        { s with heap := h₁, toks := tk })
    (hco : scope.isCoroutine = false) (hgen : scope.isGenerator = false) (hk : scope.kind = .function)
    (hcell : ∀ x ∈ scope.names, x.2 ≠ .cell) : codeAny (model prog w) A (.call (.ref f) args) R s :=
  code_def B F X₀ N T hA hf hke ho hcd hroom hbind hloc (fun g L' h₁ FG F' N' B' X' T' => h g L' h₁ _ FG F' N' B' X' T') hco hgen hk hcell
local macro_rules | `(tactic| k_room) => `(tactic| k_extra "n k_room")
local macro_rules | `(tactic| k_enter) => `(tactic| k_extra "n k_enter")
local macro_rules | `(tactic| ktr_units) => `(tactic| k_extra "n ktr_units")
local macro_rules | `(tactic| ktr_room) => `(tactic| k_extra "n ktr_room")
local macro_rules | `(tactic| ktr_unf) => `(tactic| k_extra "n ktr_unf")
local macro_rules | `(tactic| tb_start) => `(tactic| k_extra "n tb_start")
local macro_rules | `(tactic| tb_rel) => `(tactic| k_extra "n tb_rel")
local macro_rules | `(tactic| k_ne) => `(tactic| k_extra "n k_ne")
local macro_rules | `(tactic| kwd_inv) => `(tactic| k_extra "n kwd_inv")
local macro_rules | `(tactic| k_all) => `(tactic| k_extra "n k_all")
local macro_rules | `(tactic| kt_eqs) => `(tactic| k_extra "n kt_eqs")
theorem rowsA0_1 : True := by
  k_with "n k_room" => (first | (ktr_room) | fail "row")
  k_with "m eval Constant str" => (first | (k_here; (with_reducible refine const_s9 ?_); intro u') | fail "row")
  k_with "m eval Constant int" => (first | (k_here; (with_reducible refine const_i9 ?_); intro u') | fail "row")
  k_with "m storeName" => (first | (k_here; k_dflt ((refine' store9 ?F ?N ?_ ?a ?b; (case F => k_asm); (case N => k_asm); (case a => exact rfl); (case b => exact rfl); k_whole; intro h' u' F' N'; (try k_sweep)))) | fail "row")
  k_with "m execs cons" => (first | (first | (k_here; k_made) | (k_here; k_gentoks) | (k_here; (with_reducible refine wpAny_execs_cons ?_); (try dsimp only); k_fold)) | fail "row")
  k_with "n k_enter" => (first | (((fail_if_success k_inElt); (refine' code_def9 ?k1 ?k2 ?k3 ?k4 ?k5 ?kA ?kF ?kK ?k6 ?k7 ?k8 ?k9 ?kB ?_ ?c2 ?c3 ?c4 ?c5; (case kA => exact rfl); (case kF => exact rfl); (case kK => first | exact rfl | assumption); (case k1 => k_asm); (case k2 => k_asm); (case k3 => k_asm); (case k4 => k_asm); (case k5 => k_asm); (case k6 => k_is); (case k7 => k_is); (case k8 => k_room); (case k9 => first | exact BindsTo.of_eq (binds := [(_, _)]) rfl | exact BindsTo.of_eq (binds := [(_, _), (_, _)]) rfl | exact BindsTo.of_eq (binds := [(_, _), (_, _), (_, _)]) rfl | exact BindsTo.of_eq (binds := []) rfl | exact BindsTo.of_eq (binds := [(_, _), (_, _), (_, _), (_, _)]) rfl | exact BindsTo.of_eq (binds := [(_, _), (_, _), (_, _), (_, _), (_, _)]) rfl | exact BindsTo.of_eq (binds := [(_, _), (_, _), (_, _), (_, _), (_, _), (_, _)]) rfl | exact BindsTo.of_eq rfl | exact binds_K (by k_in) rfl (by k_is) rfl rfl rfl); (case c5 => decide); (case kB => exact locs rfl); (case c2 => exact rfl); (case c3 => exact rfl); (case c4 => exact rfl); k_whole; intro g' L' h' tk' FG' F' N' B' X' T' e9 A9; (dsimp only [List.reverse, List.reverseAux] at F'); (try dsimp only); (try k_lift B'); (try k_fold)))) | fail "row")
  k_with "m setAttr ref" => (first | (k_here; k_dflt ((refine' set9 ?k1 ?k2 ?k3 ?k4 ?k5 ?k6 ?k7 ?k8 ?k9 ?k10 ?k11 ?k12 ?k13 ?_; (case k1 => k_asm); (case k2 => k_asm); (case k3 => k_asm); (case k4 => k_inst); (case k5 => exact rfl); (case k6 => k_is); (case k7 => k_is); (case k8 => k_is); (case k9 => k_is); (case k10 => k_get); (case k11 => k_put); (case k12 => k_upd); (case k13 => exact Nat.le_of_ble_eq_true rfl); k_whole; intro h' u' F' N'; (try k_sweep)))) | fail "row")
  k_with "m newList" => (first | (k_here; k_dflt (refine' list9 ?k1 ?k2 ?_; (case k1 => k_asm); (case k2 => k_asm); k_whole); intro l' h' F' N' l1; (try k_lt l1); (try k_sweep)) | fail "row")
  k_with "m isTrue Compare" => (first | (k_here; k_fold) | fail "row")
  k_with "m isTrue" => (first | (k_here; k_fold) | fail "row")
  k_with "m isTrue BoolOp" => (first | (k_here; k_fold) | fail "row")
  k_with "m isTrue UnaryOp" => (first | (k_here; k_fold) | fail "row")
  k_with "m eval Call Attribute" => (first | (k_here; k_fold) | fail "row")
  k_with "m eval Call" => (first | (k_here; k_fold) | fail "row")
  k_with "m eval Subscript" => (first | (k_here; k_fold) | fail "row")
  k_with "m eval Compare" => (first | (k_here; k_fold) | fail "row")
  k_with "n ktr_units" => (first | ((k_dflt (first | (refine' un1 ?a9 ?b9; (case a9 => assumption); (case b9 => exact rfl)) | (refine' un2 ?a9 ?b9; (case a9 => assumption); (case b9 => exact rfl)) | (refine' un3 ?a9 ?b9; (case a9 => assumption); (case b9 => exact rfl)) | (refine' un4 ?a9 ?b9; (case a9 => assumption); (case b9 => exact rfl))))) | fail "row")
  k_with "n ktr_room" => (first | ((k_dflt (first | (refine' un1 ?a9 ?b9; (case a9 => assumption); (case b9 => exact rfl)) | (refine' un2 ?a9 ?b9; (case a9 => assumption); (case b9 => exact rfl)) | (refine' un3 ?a9 ?b9; (case a9 => assumption); (case b9 => exact rfl)) | (refine' un4 ?a9 ?b9; (case a9 => assumption); (case b9 => exact rfl))))) | fail "row")
  k_with "n ktr_unf" => (first | ((w_on; (refine wpAny_call ?_); k_dflt ((refine' own_call ?k1 ?k2 ?k3 ?k4 ?k5 ?kA ?kF ?kK ?k6 ?k7 ?k8 ?k9 ?kB ?_ ?c2 ?c3 ?c4 ?c5); (case kA => exact rfl); (case kF => exact rfl); (case kK => assumption); (case k1 => k_asm); (case k2 => k_asm); (case k3 => k_asm); (case k4 => k_asm); (case k5 => k_asm); (case k6 => k_is); (case k7 => k_is); (case k8 => ktr_room); (case k9 => first | exact BindsTo.of_eq (binds := [(_, _)]) rfl | exact BindsTo.of_eq (binds := [(_, _), (_, _)]) rfl | exact BindsTo.of_eq (binds := [(_, _), (_, _), (_, _)]) rfl | exact BindsTo.of_eq (binds := []) rfl | exact BindsTo.of_eq (binds := [(_, _), (_, _), (_, _), (_, _)]) rfl | exact BindsTo.of_eq (binds := [(_, _), (_, _), (_, _), (_, _), (_, _)]) rfl | exact BindsTo.of_eq (binds := [(_, _), (_, _), (_, _), (_, _), (_, _), (_, _)]) rfl); (case c5 => decide); (case kB => exact locs rfl); (case c2 => exact rfl); (case c3 => exact rfl); (case c4 => exact rfl); k_whole; intro g' L' h' tk' FG' hg' F' N' B' X' T' e9 A9; (dsimp only [List.reverse, List.reverseAux] at F'); (try dsimp only); (try k_lift B'); (try k_fold)))) | fail "row")
  k_with "m ite" => (first | (k_closed; first | refine PySem.W.ite_pos (by decide +kernel) ?_ | refine PySem.W.ite_neg (by decide +kernel) ?_) | fail "row")
  k_with "n tb_start" => (first | (((case kB => k_asm); (case kF => k_asm); (case kX => k_asm); (case kN => k_asm); (case kS => exact List.forall_mem_cons.mpr ⟨by k_mem, List.forall_mem_cons.mpr ⟨by k_mem, List.forall_mem_nil _⟩⟩); (case kT => k_asm); (case kK => first | exact rfl | assumption); (case kD => ktr_room); (case kU => ktr_units))) | fail "row")
  k_with "n tb_rel" => (first | (first | assumption | omega | decide | decide +kernel) | fail "row")
  k_with "n k_ne" => (first | ((refine neN ?_; (try dsimp only); first | assumption | exact Ne.symm (by assumption) | exact Nat.ne_of_lt (by assumption) | exact Nat.ne_of_gt (by assumption) | exact pk0 (by assumption) | exact Ne.symm (pk0 (by assumption)) | exact pk1 (by assumption) | exact Ne.symm (pk1 (by assumption)) | exact pk2 (by assumption) | exact Ne.symm (pk2 (by assumption)) | exact pk3 (by assumption) | exact Ne.symm (pk3 (by assumption)) | exact pk4 (by assumption) | exact Ne.symm (pk4 (by assumption)) | exact pk5 (by assumption) | exact Ne.symm (pk5 (by assumption)) | exact pk6 (by assumption) | exact Ne.symm (pk6 (by assumption)) | exact pk7 (by assumption) | exact Ne.symm (pk7 (by assumption)) | exact pk8 (by assumption) | exact Ne.symm (pk8 (by assumption)) | exact pk9 (by assumption) | exact Ne.symm (pk9 (by assumption)) | exact pk10 (by assumption) | exact Ne.symm (pk10 (by assumption)) | exact pk11 (by assumption) | exact Ne.symm (pk11 (by assumption)) | exact pk12 (by assumption) | exact Ne.symm (pk12 (by assumption)) | ((refine' off1 ?h9 ?m9; (case h9 => assumption); (case m9 => k_mem))) | ((refine' off2 ?h9 ?m9; (case h9 => assumption); (case m9 => k_mem))) | ((refine' off3 ?h9 ?m9; (case h9 => assumption); (case m9 => k_mem))) | (refine Ne.symm ?_; (refine' off1 ?h9 ?m9; (case h9 => assumption); (case m9 => k_mem))) | (refine Ne.symm ?_; (refine' off2 ?h9 ?m9; (case h9 => assumption); (case m9 => k_mem))) | (refine Ne.symm ?_; (refine' off3 ?h9 ?m9; (case h9 => assumption); (case m9 => k_mem))) | (refine' led_ne ?N9 ?a9 ?b9 ?c9; (case N9 => assumption); (case a9 => k_mem); (case b9 => k_mem); (case c9 => (simp; done))) | (refine' led_neO ?N9 ?a9 ?b9 ?c9; (case N9 => assumption); (case a9 => k_mem); (case b9 => k_mem); (case c9 => (simp; done))) | omega)) | fail "row")
  k_with "n kwd_inv" => (first | (((case kB => k_asm); (case kF => k_asm); (case kX => k_asm); (case kN => k_asm); (case kS => repeat' (first | exact Take.nil | exact Sel.head | exact Take.all | refine' Take.cons ?_ ?_ | refine' Sel.tail ?_)); (case kR => repeat' (first | exact apart_nil | exact allNe_nil | refine' apart_cons ?_ ?_ | refine' allNe_cons ?_ ?_ | k_ne | (refine' tail_apart ?N9 ?X9 ?s9 ?b9; (case N9 => assumption); (case X9 => assumption); (case s9 => repeat' (first | exact sub_refl | refine' sub_cons ?_)); (case b9 => repeat' (first | exact both_nil | (refine' both_cons ?m9 ?c9 ?_; (case m9 => k_mem); (case c9 => (simp; done)))))))); (case kT => k_asm); (case kK => first | exact rfl | assumption); (case kD => ktr_room); (case kU => ktr_units))) | fail "row")
  k_with "n k_all" => (first | ((refine' tail_ne ?N9 ?X9 ?s9 ?b9 ?c9; (case N9 => assumption); (case X9 => assumption); (case s9 => repeat' (first | exact sub_refl | refine' sub_cons ?_)); (case b9 => k_mem); (case c9 => (simp; done)))) | fail "row")
  k_with "m call builtin:list.append" => (first | (dsimp only [List.cons_append, List.nil_append]; walk1) | fail "row")
  k_with "n kt_eqs" => (first | (repeat' (first | exact List.forall_mem_nil _ | exact sub_refl | refine' List.forall_mem_cons.mpr ⟨?_, ?_⟩ | k_mem | refine' sub_cons ?_)) | fail "row")
  trivial
-- part A0c
section
variable {prog : Program} {w : World} {A A₀ : Around} {s : Shared} {K : Frag} {L : Addr} {h₀ base : Heap} {m mg mb : Str → Option Value} {foot : Led} {p : Program} {loose : List Str} {mean : ExcName → Option Value}
theorem own_callC {env : Env} {outer : List Env} {R : Result → Shared → Prop} {name qual : Str} {params : Arguments} {body : List Stmt} {scope : Scope} {dV kV doc pm cdv ct oc : Value} {an od : Option Addr} {osl : Array (Option Value)} {f : Addr} {args : Args} {binds : List (Str × Value)}
    (B : Below A₀ base outer h₀) (F : Fr h₀ L s.heap m) (X₀ : K.In h₀) (N : News h₀ L s.heap foot) (T : Top p loose mean mg mb h₀) (hA : A.frames = some (env :: outer)) (hf : env.frame = some L) (hke : env.scope.kind = .function)
    (ho : K.lookup f = some ⟨oc, od, .func (fnOf name qual params body scope dV kV doc pm an cdv ct), osl⟩) (hcd : codeIn K cdv qual = true) (hroom : A.depth < recursionLimit)
    (hbind : BindsTo s (fnOf name qual params body scope dV kV doc pm an cdv ct) args binds) (hkind : (binds.all fun y => scope.names.lookup y.1 == some .local || scope.names.lookup y.1 == some .cell) = true)
    (hnd : ((cellsFrom 0 scope.names []).map (·.1)).Nodup)
    (h : ∀ g L' h₁ tk cells, Fr h₀ L g m → Keeps foot s.heap g → Fr g L' h₁ (bindL (envOfC qual scope L' f cdv).kindOf binds fun _ => none) → News g L' h₁ (cells ++ foot) →
      CellsAre (bindC (envOfC qual scope L' f cdv).kindOf binds fun _ => none) (cellsFrom (L' + 1) scope.names []) cells → Below A base (env :: outer) g → K.In g → Top p loose mean mg mb g → (∀ p ∈ foot, p.1 < L') →
      let e9 := envOfC qual scope L' f cdv
      let A9 := A.deeper e9
      wpAny (model prog w) A9 (execs body e9)
        (fun fl s' => LeaveK h₀ L m g R (match fl with | .ret v => v | _ => .none) s')
        (fun e s' => wpAny (model prog w) A9 (leaving e9 e) (fun _ s'' => R (.error e) s'') (fun e' s'' => R (.error e') s'') s')
        { s with heap := h₁, toks := tk })
    (hco : scope.isCoroutine = false) (hgen : scope.isGenerator = false) (hk : scope.kind = .function) : codeAny (model prog w) A (.call (.ref f) args) R s := by
  obtain ⟨FG, BG, st, lv⟩ := groundX (R := R) B F N hA hf hke
  have XS := X₀.keeps F.keep
  refine codeAny_call_function hroom (XS _ _ ho) rfl hco hgen rfl (codeRec_of XS hcd) (hbind _ _ _ _ ?_)
  refine wpAny_newFunctionEnv_cells hk (kindsX hkind _) fun env' he s' x => ?_
  subst he
  refine ⟨(T.nolimit.keeps F.keep).keeps x.toInCall.keep, codeAny_func ?_⟩
  obtain ⟨h₁, tk, rfl, _⟩ := x.done
  have hk₁ := x.toInCall.keep
  obtain ⟨cells, NC, Y⟩ := Cl.news (h₀ := s.heap) (Nat.le_refl _) fun n c hm => ⟨x.cell n c (lookup_of_mem_nodup (cellsFrom_names scope.names 0 (s.heap.objs.size + 1) [] [] rfl ▸ hnd) hm), x.above n c hm⟩
  refine wpAny_mono (h _ s.heap.objs.size h₁ tk cells FG (fun b o e n => hideAll_get _ e n) ⟨x.toInCall.ns, fun b o e => hk₁ b o (of_hideAll _ e), Nat.le_of_eq (hideAll_size _ _)⟩ (fun q hq => ?_) Y BG (X₀.keeps st) (T.keeps st) fun q hq => Heap.lt_size (N q hq).1) (fun fl s' hl => lv _ _ hl) fun _ _ y => y
  rcases List.mem_append.mp hq with hq | hq
  · refine ⟨(NC q hq).1, (NC q hq).2.1, ?_⟩
    cases e : (hideAll s.heap (foot.map (·.1))).get? q.1 with
    | none => rfl
    | some o => have := of_hideAll _ e; rw [(NC q hq).2.2] at this; cases this
  · exact ⟨hk₁ _ _ (N q hq).1, Nat.ne_of_lt (Heap.lt_size (N q hq).1), hideAll_none _ (List.mem_map_of_mem hq)⟩
end
section
open LCg LCt
variable {prog : Program} {w : World} {A : Around} {E : Value → Shared → Prop} {s : Shared} {h₀ : Heap} {L : Addr} {m : Str → Option Value} {env : Env}
/-- the source of a comprehension: a text of ASCII signs, the signs written out -/
noncomputable def SrcTx (prog : Program) (w : World) (A : Around) (h₀ : Heap) (L : Addr) (m : Str → Option Value) (env : Env) (ct elt : Expr) (x : Str) (scope : Scope) (cl : List (Str × Addr)) (zs : List Str) (Fin : Shared → List Value → Led → Prop) (xv : Value) (s₁ : Shared) : Prop :=
  ∃ y t news, xv = .str y t ∧ A.handled = none ∧ Fr h₀ L s₁.heap m ∧ News h₀ L s₁.heap news ∧ y.cps.all (· < 128) = true ∧ y.cps.size ≤ sizeLine ∧ y.cps.size = zs.length ∧ (∀ (i c : Nat), y.cps[i]? = some c → zs[i]? = some (⟨#[c]⟩ : Str)) ∧
    ∀ g, CompRestT prog w A h₀ L m env ct elt x scope cl { s₁ with heap := g } (fun _ => True) (fun (i : Nat) v => ∃ u z, zs[i]? = some z ∧ v = .str z u) (Fin { s₁ with heap := g }) zs.length 0 [] news
theorem SrcTx.intro {n : Nat} {ct elt : Expr} {x : Str} {scope : Scope} {cl : List (Str × Addr)} {zs : List Str} {Fin : Shared → List Value → Led → Prop} {y : Str} {t : Nat} {news : Led} {s₁ : Shared}
    (hh : A.handled = none) (F : Fr h₀ L s₁.heap m) (N : News h₀ L s₁.heap news) (h1 : y.cps.all (· < 128) = true) (h2 : y.cps.size ≤ sizeLine) (h5 : zs.length = n) (h3 : y.cps.size = zs.length) (h4 : (List.range zs.length).all (fun i => (y.cps[i]?.map fun c => (⟨#[c]⟩ : Str)) == zs[i]?) = true)
    (h : ∀ g, CompRestT prog w A h₀ L m env ct elt x scope cl { s₁ with heap := g } (fun _ => True) (fun (i : Nat) v => ∃ u z, zs[i]? = some z ∧ v = .str z u) (Fin { s₁ with heap := g }) n 0 [] news) :
    SrcTx prog w A h₀ L m env ct elt x scope cl zs Fin (.str y t) s₁ := ⟨y, t, news, rfl, hh, F, N, h1, h2, h3, fun i c e => by
      have hi : i < zs.length := by
        rw [← h3]
        rcases Nat.lt_or_ge i y.cps.size with h | h
        · exact h
        · rw [Array.getElem?_eq_none h] at e; cases e
      have := List.all_eq_true.mp h4 i (List.mem_range.mpr hi)
      rw [e] at this
      exact (beq_iff_eq.mp this).symm, h5 ▸ h⟩
theorem ListComp_S {ct elt iter : Expr} {x : Str} {px : Pos} {scope : Scope} {cl : List (Str × Addr)} {pos : Pos} {Q : Value → Shared → Prop} (zs : List Str) (F₀ : Fr h₀ L s.heap m)
    (hclos : closureFor scope env = pure cl) (hcell : ∀ y ∈ scope.names, y.2 ≠ .cell) (hkind : scope.kind = .function)
    (hnames : ∀ y ∈ scope.names, y.2 = .local → scope.names.lookup y.1 = some .local) (hx : scope.names.lookup x = some .local)
    (h : wpAny (model prog w) A (eval iter env) (SrcTx prog w A h₀ L m env ct elt x scope cl zs (fun s₂ => FinE h₀ L m s₂ Q)) E s)
    (hs : ∀ x, foldedSetIterable iter env x = pure x := by intro _; rfl) :
    wpAny (model prog w) A (eval (.ListComp elt [⟨.Name x px, iter, [ct], 0⟩] scope pos) env) Q E s := by
  rw [eval_ListComp]
  refine wpAny_comprehension_free (use := none) rfl hs hclos hkind hnames (wpAny_mono h (fun xv s₁ h₁ => ?_) fun _ _ e => e)
  obtain ⟨y, t, news, rfl, hh, F, N, ha, hsz, hlen, hz, R⟩ := h₁
  refine wpAny_pyIter_ascii ha ?_
  have W := Walks.strAscii (prog := prog) (w := w) (A := A) hh s₁.heap.objs.size y t
  have W' : Walks prog w A s₁.heap.objs.size [s₁.heap.objs.size] [s₁.heap.objs.size] zs.length (fun (i : Nat) v => ∃ u z, zs[i]? = some z ∧ v = .str z u) (fun i h => h.IsStrIter s₁.heap.objs.size "str_ascii_iterator" y t i) := by
    rw [← hlen]
    exact { sub := W.sub, frame := W.frame, item := fun i s Q E hi st hQ => W.item i s Q E hi st fun v h' tk hP => hQ v h' tk (by
      obtain ⟨c, u, hc, rfl⟩ := hP
      exact ⟨u, _, hz _ _ hc, rfl⟩), done := W.done, self := W.self }
  refine block_T W' (hlen ▸ hsz) (fun i h st => by obtain ⟨o, e, _⟩ := st; exact ⟨o, e⟩) (fun i h h' o nw st e1 e2 _ _ _ => W.frame i h h' st fun b hb o' e => ?_) hcell hkind hx ⟨_, Heap.get?_push_size _ rfl, rfl, rfl⟩ (fun b hb => ?_)
    (F.push _) (N.grown fun _ _ e => Heap.get?_push_of_some _ e) (Nat.ne_of_lt F.ns.lt) (next_is_new F) (fun p hp => Nat.ne_of_lt (Heap.lt_size (N p hp).1)) trivial (R _) ?_
  · rw [List.mem_singleton.mp hb] at e ⊢
    rw [e1] at e
    rw [e2, e]
  · rw [List.mem_singleton.mp hb]
    show s₁.heap.objs.size < (s₁.heap.push _).objs.size
    rw [Heap.size_push]; exact Nat.lt_succ_self _
  · intro D C h tk m' ys news' F' N' o1 hn hC₀ hD₀ hCL hDL hCD offC fin
    refine ⟨m', hn, fun h'' hs'' => fin D h'' tk (F'.change hs'' hCL hC₀) (fun p hp => ?_) o1⟩
    refine ⟨hs''.extBut _ _ ?_ (N' p hp).1, (N' p hp).2⟩
    rcases List.mem_cons.mp hp with rfl | hp
    · exact Ne.symm hCD
    · exact offC p hp
end
theorem join_none : Txt.join (Str.ofString "") [] = Str.ofString "" := by decide +kernel
theorem join_i : Txt.join (Str.ofString "") [Str.ofString "i"] = Str.ofString "i" := by decide +kernel
theorem rowsA0c_1 : True := by
  k_with "n ktr_unf" => (first | ((w_on; (refine wpAny_call ?_); k_dflt ((refine' own_callC ?k1 ?k2 ?k3 ?k4 ?k5 ?kA ?kF ?kK ?k6 ?k7 ?k8 ?k9 ?kB ?kD ?_ ?c2 ?c3 ?c4); (case kA => exact rfl); (case kF => exact rfl); (case kK => assumption); (case k1 => k_asm); (case k2 => k_asm); (case k3 => k_asm); (case k4 => k_asm); (case k5 => k_asm); (case k6 => k_is); (case k7 => k_is); (case k8 => ktr_room); (case k9 => first | exact BindsTo.of_eq (binds := [(_, _)]) rfl | exact BindsTo.of_eq (binds := [(_, _), (_, _)]) rfl | exact BindsTo.of_eq (binds := [(_, _), (_, _), (_, _)]) rfl | exact BindsTo.of_eq (binds := []) rfl | exact BindsTo.of_eq (binds := [(_, _), (_, _), (_, _), (_, _)]) rfl | exact BindsTo.of_eq (binds := [(_, _), (_, _), (_, _), (_, _), (_, _)]) rfl | exact BindsTo.of_eq (binds := [(_, _), (_, _), (_, _), (_, _), (_, _), (_, _)]) rfl); (case kB => exact rfl); (case kD => decide +kernel); (case c2 => exact rfl); (case c3 => exact rfl); (case c4 => exact rfl); k_whole; intro g' L' h' tk' cells' FG' hg' F' N' Y' B' X' T' l1 e9 A9; (try k_lt l1); k_cells Y'; (try simp only [List.cons_append, List.nil_append] at N'); (try dsimp only); (try k_lift B'); (try k_fold)))) | fail "row")
  k_with "m eval ListComp" => (first | (k_here; lct_look; k_dflt (refine ListComp_S [Str.ofString "i", Str.ofString "m", Str.ofString "s", Str.ofString "x"] (by k_asm) (by with_unfolding_all rfl) (by decide) (by rfl) (by decide) (by rfl) ?_)) | fail "row")
  k_with "m SrcTx" => (first | (k_here; k_dflt (refine SrcTx.intro (n := 4) (by rfl) (by k_asm) (by k_asm) (by decide +kernel) (by decide +kernel) (by rfl) (by decide +kernel) (by decide +kernel) ?_; intro g')) | fail "row")
  k_with "m CompRestT" => (first | (with_unfolding_all (refine LCt.CompRestT.succ ?_; intro v' I' oI' C' oC' D' m' h' tk' E' hv' hC' hx' F' N' off' ne'; (obtain ⟨t9', z9', hz9', hv9'⟩ := hv'); (have hz8' := Option.some.inj hz9'); subst hz8'; subst hv9')) | fail "row")
  k_with "m call builtin:str.join" => (first | (k_here; (dsimp only [List.cons_append, List.nil_append]); k_dflt (first | (refine' SC.join (l := []) (texts := []) (News.isList ?N ?q) ?e ?k ?_; (case N => k_asm); (case q => k_mem); (case e => exact rfl); (case k => decide +kernel)) | (refine' SC.join (l := [(Str.ofString "i", _)]) (texts := [Str.ofString "i"]) (News.isList ?N ?q) ?e ?k ?_; (case N => k_asm); (case q => k_mem); (case e => exact rfl); (case k => decide +kernel))); (try intro _ _); (try dsimp only); (try rw [join_none]); (try rw [join_i])) | fail "row")
  trivial
-- part A1
set_option maxHeartbeats 1000000 in
theorem peek_spec {w : World} {p d : Addr} {x : Str} {tx t1 t2 t3 t4 t5 t6 t7 u1 u2 u3 u4 : Nat} {k gr de tot : Int} {nm sp : Addr}
    (hx : x.length ≤ 1000) (k0 : 0 ≤ k) (k1 : k ≤ 1000) :
    Spec w 529 [.ref p] [(p, ptObj d), (d, ptDict w t1 t2 t3 t4 t5 t6 t7 tx u1 u2 u3 u4 7 x tot k gr de nm sp)] 2 20
      (fun v l => (∃ t, v = .str (Txt.slice x (some k) (some (k + 1))) t) ∧ l = [(p, ptObj d), (d, ptDict w t1 t2 t3 t4 t5 t6 t7 tx u1 u2 u3 u4 7 x tot k gr de nm sp)]) := by
  intro mean mg mb dp un gd cn cs a ccd cl outer A₀ base h₀ L m s Q E B F X N T hk hd hu ret
  ktr_unf
  k_steps
  all_goals (refine spec_end ret (by assumption) (by assumption) (by assumption) (by assumption) (by assumption) ?_)
  exact ⟨⟨_, rfl⟩, rfl⟩
theorem peekc_spec {w : World} {p d : Addr} {x c : Str} {tx t1 t2 t3 t4 t5 t6 t7 u1 u2 u3 u4 : Nat} {k gr de tot : Int} {nm sp : Addr}
    (hc : Txt.slice x (some k) (some (k + 1)) = c) (hx : x.length ≤ 1000) (k0 : 0 ≤ k) (k1 : k ≤ 1000) :
    Spec w 529 [.ref p] [(p, ptObj d), (d, ptDict w t1 t2 t3 t4 t5 t6 t7 tx u1 u2 u3 u4 7 x tot k gr de nm sp)] 2 20
      (fun v l => (∃ t, v = .str c t) ∧ l = [(p, ptObj d), (d, ptDict w t1 t2 t3 t4 t5 t6 t7 tx u1 u2 u3 u4 7 x tot k gr de nm sp)]) := hc ▸ peek_spec hx k0 k1
set_option maxHeartbeats 1000000 in
theorem skips_spec {w : World} {p d : Addr} {x W : Str} {tx tw t1 t2 t3 t4 t5 t6 t7 u1 u2 u3 u4 : Nat} {k gr de tot : Int} {nm sp : Addr}
    (hx : x.length ≤ 1000) (k0 : 0 ≤ k) (k1 : k ≤ 1000) (hW : W.length ≤ 10) (hne : Txt.slice x (some k) (some (k + (W.length : Int))) ≠ W) :
    Spec w 536 [.ref p, .str W tw] [(p, ptObj d), (d, ptDict w t1 t2 t3 t4 t5 t6 t7 tx u1 u2 u3 u4 7 x tot k gr de nm sp)] 2 20
      (fun v l => v = .bool false ∧ l = [(p, ptObj d), (d, ptDict w t1 t2 t3 t4 t5 t6 t7 tx u1 u2 u3 u4 7 x tot k gr de nm sp)]) := by
  intro mean mg mb dp un gd cn cs a ccd cl outer A₀ base h₀ L m s Q E B F X N T hk hd hu ret
  ktr_unf
  k_steps
  all_goals first
    | (refine spec_end ret (by assumption) (by assumption) (by assumption) (by assumption) (by assumption) ?_; exact ⟨rfl, rfl⟩)
    | (exfalso; simp_all; done)
theorem rowsA1_1 : True := by
  k_with "m call ref" => (first | (k_here; (with_reducible show wpAny _ _ (call (Value.ref 529) _) _ _ _); k_dflt (refine' Spec.roS (peek_spec ?hx ?k0 ?k1) ?kB ?kF ?kX ?kN ?kS ?kT ?kK ?kD ?kU ?_; tb_start; (case hx => tb_rel); (case k0 => tb_rel); (case k1 => tb_rel)); intro t' h' tk' F' N'; (try dsimp only); (try k_sweep)) | fail "row")
  k_with "m call ref" => (first | (k_here; (with_reducible show wpAny _ _ (call (Value.ref 529) _) _ _ _); k_dflt (refine' Spec.roS (peekc_spec ?hc ?hx ?k0 ?k1) ?kB ?kF ?kX ?kN ?kS ?kT ?kK ?kD ?kU ?_; tb_start; (case hc => assumption); (case hx => tb_rel); (case k0 => tb_rel); (case k1 => tb_rel)); intro t' h' tk' F' N'; (try dsimp only); (try k_sweep)) | fail "row")
  k_with "m call ref" => (first | (k_here; (with_reducible show wpAny _ _ (call (Value.ref 536) _) _ _ _); k_dflt (refine' Spec.roV (skips_spec ?hx ?k0 ?k1 ?hW ?hne) ?kB ?kF ?kX ?kN ?kS ?kT ?kK ?kD ?kU ?_; tb_start; (case hx => tb_rel); (case k0 => tb_rel); (case k1 => tb_rel); (case hW => decide); (case hne => tb_rel)); intro h' tk' F' N'; (try dsimp only); (try k_sweep)) | fail "row")
  trivial
-- part A2
set_option maxHeartbeats 1000000 in
/-- skip_unseen where nothing is to be skipped -/
theorem unseen_spec {w : World} {p d : Addr} {x fl : Str} {tx tw t1 t2 t3 t4 t5 t6 t7 u1 u2 u3 u4 : Nat} {k gr de tot : Int} {nm sp : Addr}
    (hx : x.length ≤ 1000) (k0 : 0 ≤ k) (k1 : k ≤ 1000) (hfl : fl = Str.ofString "" ∨ fl = Str.ofString "i") (hne : Txt.slice x (some k) (some (k + ((Str.ofString "(?#").length : Int))) ≠ Str.ofString "(?#") :
    Spec w 749 [.ref p, .str fl tw] [(p, ptObj d), (d, ptDict w t1 t2 t3 t4 t5 t6 t7 tx u1 u2 u3 u4 7 x tot k gr de nm sp)] 4 40
      (fun v l => v = .bool false ∧ l = [(p, ptObj d), (d, ptDict w t1 t2 t3 t4 t5 t6 t7 tx u1 u2 u3 u4 7 x tot k gr de nm sp)]) := by
  intro mean mg mb dp un gd cn cs a ccd cl outer A₀ base h₀ L m s Q E B F X N T hk hd hu ret
  ktr_unf
  rcases hfl with rfl | rfl
  all_goals k_steps
  all_goals first
    | (refine spec_end ret (by assumption) (by assumption) (by assumption) (by assumption) (by assumption) ?_; exact ⟨rfl, rfl⟩)
    | (exfalso; simp_all; done)
theorem rowsA2_1 : True := by
  k_with "m call ref" => (first | (k_here; (with_reducible show wpAny _ _ (call (Value.ref 749) _) _ _ _); k_dflt (refine' Spec.roV (unseen_spec ?hx ?k0 ?k1 ?hfl ?hne) ?kB ?kF ?kX ?kN ?kS ?kT ?kK ?kD ?kU ?_; tb_start; (case hx => tb_rel); (case k0 => tb_rel); (case k1 => tb_rel); (case hfl => tb_rel); (case hne => tb_rel)); intro h' tk' F' N'; (try dsimp only); (try k_sweep)) | fail "row")
  trivial
set_option maxHeartbeats 1000000 in
/-- read_inline where no flags stand -/
theorem inline_spec {w : World} {p d : Addr} {x fl : Str} {tx tw t1 t2 t3 t4 t5 t6 t7 u1 u2 u3 u4 : Nat} {k gr de tot : Int} {nm sp : Addr}
    (hx : x.length ≤ 1000) (k0 : 0 ≤ k) (k1 : k ≤ 1000) (hne : Txt.slice x (some k) (some (k + ((Str.ofString "(?").length : Int))) ≠ Str.ofString "(?") :
    Spec w 761 [.ref p, .str fl tw] [(p, ptObj d), (d, ptDict w t1 t2 t3 t4 t5 t6 t7 tx u1 u2 u3 u4 7 x tot k gr de nm sp)] 4 40
      (fun v l => v = .none ∧ l = [(p, ptObj d), (d, ptDict w t1 t2 t3 t4 t5 t6 t7 tx u1 u2 u3 u4 7 x tot k gr de nm sp)]) := by
  intro mean mg mb dp un gd cn cs a ccd cl outer A₀ base h₀ L m s Q E B F X N T hk hd hu ret
  ktr_unf
  k_steps
  all_goals (refine spec_end ret (by assumption) (by assumption) (by assumption) (by assumption) (by assumption) ?_; exact ⟨rfl, rfl⟩)
set_option maxHeartbeats 1000000 in
/-- take_count where no count stands -/
theorem count_spec {w : World} {p d : Addr} {x c : Str} {tx t1 t2 t3 t4 t5 t6 t7 u1 u2 u3 u4 : Nat} {k gr de tot : Int} {nm sp : Addr}
    (hc : Txt.slice x (some k) (some (k + 1)) = c) (hx : x.length ≤ 1000) (k0 : 0 ≤ k) (k1 : k ≤ 1000) (hcs : c = Str.ofString "" ∨ c = Str.ofString "a" ∨ c = Str.ofString "b") :
    Spec w 700 [.ref p] [(p, ptObj d), (d, ptDict w t1 t2 t3 t4 t5 t6 t7 tx u1 u2 u3 u4 7 x tot k gr de nm sp)] 4 40
      (fun v l => v = .none ∧ l = [(p, ptObj d), (d, ptDict w t1 t2 t3 t4 t5 t6 t7 tx u1 u2 u3 u4 7 x tot k gr de nm sp)]) := by
  intro mean mg mb dp un gd cn cs a ccd cl outer A₀ base h₀ L m s Q E B F X N T hk hd hu ret
  ktr_unf
  rcases hcs with rfl | rfl | rfl
  all_goals k_steps
  all_goals (refine spec_end ret (by assumption) (by assumption) (by assumption) (by assumption) (by assumption) ?_; exact ⟨rfl, rfl⟩)
theorem rowsA2_2 : True := by
  k_with "m call ref" => (first | (k_here; (with_reducible show wpAny _ _ (call (Value.ref 761) _) _ _ _); k_dflt (refine' Spec.roV (inline_spec ?hx ?k0 ?k1 ?hne) ?kB ?kF ?kX ?kN ?kS ?kT ?kK ?kD ?kU ?_; tb_start; (case hx => tb_rel); (case k0 => tb_rel); (case k1 => tb_rel); (case hne => tb_rel)); intro h' tk' F' N'; (try dsimp only); (try k_sweep)) | fail "row")
  k_with "m call ref" => (first | (k_here; (with_reducible show wpAny _ _ (call (Value.ref 700) _) _ _ _); k_dflt (refine' Spec.roV (count_spec ?hc ?hx ?k0 ?k1 ?hcs) ?kB ?kF ?kX ?kN ?kS ?kT ?kK ?kD ?kU ?_; tb_start; (case hc => first | assumption | exact rfl); (case hx => tb_rel); (case k0 => tb_rel); (case k1 => tb_rel); (case hcs => tb_rel)); intro h' tk' F' N'; (try dsimp only); (try k_sweep)) | fail "row")
  k_with "m exec While" => (first | (k_here; k_dflt (refine whl_start 100 ?_)) | fail "row")
  k_with "m exec While Call" => (first | (k_here; k_dflt (refine whl_start 100 ?_)) | fail "row")
  k_with "m exec While Compare" => (first | (k_here; k_dflt (refine whl_start 100 ?_)) | fail "row")
  trivial
-- part A3
theorem pt_ne {w : World} {h₀ h : Heap} {L p d : Addr} {x : Str} {tx t1 t2 t3 t4 t5 t6 t7 u1 u2 u3 u4 : Nat} {k gr de tot : Int} {nm sp : Addr}
    (N : News h₀ L h [(p, ptObj d), (d, ptDict w t1 t2 t3 t4 t5 t6 t7 tx u1 u2 u3 u4 7 x tot k gr de nm sp)]) : p ≠ d := fun e => by
  have e1 := (N _ (.head _)).1
  have e2 := (N _ (.tail _ (.head _))).1
  rw [← e, e1] at e2
  injection e2 with e2
  exact nomatch congrArg Obj.cls e2
set_option maxHeartbeats 1000000 in
/-- read_counted where no count stands -/
theorem counted_spec {w : World} {p d : Addr} {x c fl : Str} {nd : Addr} {tx tw t1 t2 t3 t4 t5 t6 t7 u1 u2 u3 u4 : Nat} {k gr de tot : Int} {nm sp : Addr}
    (hc : Txt.slice x (some k) (some (k + 1)) = c) (hx : x.length ≤ 1000) (k0 : 0 ≤ k) (k1 : k ≤ 1000) (hcs : c = Str.ofString "" ∨ c = Str.ofString "a" ∨ c = Str.ofString "b")
    (hfl : fl = Str.ofString "" ∨ fl = Str.ofString "i") (hne : Txt.slice x (some k) (some (k + ((Str.ofString "(?#").length : Int))) ≠ Str.ofString "(?#") :
    Spec w 789 [.ref p, .str fl tw, .ref nd] [(p, ptObj d), (d, ptDict w t1 t2 t3 t4 t5 t6 t7 tx u1 u2 u3 u4 7 x tot k gr de nm sp)] 6 60
      (fun v l => v = .ref nd ∧ l = [(p, ptObj d), (d, ptDict w t1 t2 t3 t4 t5 t6 t7 tx u1 u2 u3 u4 7 x tot k gr de nm sp)]) := by
  intro mean mg mb dp un gd cn cs a ccd cl outer A₀ base h₀ L m s Q E B F X N T hk hd hu ret
  ktr_unf
  k_steps
  all_goals (refine spec_end ret (by assumption) (by assumption) (by assumption) (by assumption) (by assumption) ?_; exact ⟨rfl, rfl⟩)
set_option maxHeartbeats 1000000 in
/-- read_atom at a letter -/
theorem atom_spec {w : World} {p d : Addr} {x c fl : Str} {tx tw t1 t2 t3 t4 t5 t6 t7 u1 u2 u3 u4 : Nat} {k gr de tot : Int} {nm sp : Addr} {fb : Bool}
    (hc : Txt.slice x (some k) (some (k + 1)) = c) (hx : x.length ≤ 1000) (k0 : 0 ≤ k) (k1 : k ≤ 1000) (hcs : c = Str.ofString "a" ∨ c = Str.ofString "b")
    (hfl : (fl = Str.ofString "" ∧ fb = false) ∨ (fl = Str.ofString "i" ∧ fb = true)) :
    Spec w 782 [.ref p, .str fl tw] [(p, ptObj d), (d, ptDict w t1 t2 t3 t4 t5 t6 t7 tx u1 u2 u3 u4 7 x tot k gr de nm sp)] 4 60
      (fun v l => ∃ t a1 a2 u b, v = .ref t ∧ l = [(t, { cls := .type "tuple", data := .seq [.str (Str.ofString "sign") a1, .str c a2, .bool b].toArray }), (p, ptObj d), (d, ptDict w t1 t2 t3 t4 t5 t6 t7 tx u1 u u3 u4 7 x tot (k + 1) gr de nm sp)] ∧ fb = b ∧ @Ne Nat t p ∧ @Ne Nat t d) := by
  intro mean mg mb dp un gd cn cs a ccd cl outer A₀ base h₀ L m s Q E B F X N T hk hd hu ret
  have hpd := pt_ne N
  ktr_unf
  rcases hfl with ⟨rfl, rfl⟩ | ⟨rfl, rfl⟩ <;> rcases hcs with rfl | rfl
  all_goals k_steps
  all_goals ((with_reducible rename News _ _ _ _ => N9); refine spec_end ret (by assumption) (by assumption) (by assumption) (by assumption) (by assumption) ?_; refine ⟨_, _, _, _, _, rfl, rfl, by decide +kernel, ?_, ?_⟩)
  all_goals first | exact led_ne N9 (.head _) (.tail _ (.head _)) (by simp) | exact led_ne N9 (.head _) (.tail _ (.tail _ (.head _))) (by simp)
theorem rowsA3_1 : True := by
  k_with "m call ref" => (first | (k_here; (with_reducible show wpAny _ _ (call (Value.ref 789) _) _ _ _); k_dflt (refine' Spec.roV (counted_spec ?hc ?hx ?k0 ?k1 ?hcs ?hfl ?hne) ?kB ?kF ?kX ?kN ?kS ?kT ?kK ?kD ?kU ?_; tb_start; (case hc => first | assumption | exact rfl); (case hx => tb_rel); (case k0 => tb_rel); (case k1 => tb_rel); (case hcs => tb_rel); (case hfl => tb_rel); (case hne => tb_rel)); intro h' tk' F' N'; (try dsimp only); (try k_sweep)) | fail "row")
  trivial
-- part A4
theorem goes_on {c : Str} (hcs : c = Str.ofString "a" ∨ c = Str.ofString "b") : (!([Str.ofString "", Str.ofString "|", Str.ofString ")"].any fun x => x == c)) = true := by
  rcases hcs with rfl | rfl <;> decide +kernel
local macro_rules | `(tactic| ktr_rel) => `(tactic| k_extra "n ktr_rel")
theorem rowsA4_1 : True := by
  k_with "m WhlIf" => (first | (first | (refine WhlIf.yes (by assumption) ?_) | (refine WhlIf.no (by assumption) ?_)) | fail "row")
  k_with "n ktr_rel" => (first | (first | exact led_ne (by assumption) (by k_mem) (by k_mem) (by decide)) | fail "row")
  k_with "m call ref" => (first | (k_here; (with_reducible show wpAny _ _ (call (Value.ref 782) _) _ _ _); k_dflt (refine' Spec.tk (atom_spec (fb := ‹Bool›) ?hc ?hx ?k0 ?k1 ?hcs ?hfl) ?kB ?kF ?kX ?kN ?kS ?kR ?kT ?kK ?kD ?kU ?_; kwd_inv; (case hc => first | assumption | exact rfl); (case hx => tb_rel); (case k0 => tb_rel); (case k1 => tb_rel); (case hcs => tb_rel); (case hfl => tb_rel)); (rintro v' l' h' tk' ⟨_, _, _, _, _, e1', e2', hb', n1', n2'⟩ F' N' ne'); subst e1'; subst e2'; subst hb'; (simp only [List.cons_append, List.nil_append] at N'); (simp only [AllApart, AllNe, and_true] at ne'); (try dsimp only); (try k_sweep)) | fail "row")
  k_with "m call ref" => (first | (k_here; (with_reducible show wpAny _ _ (call (Value.ref 775) _) _ _ _); k_dflt (refine' Spec.tkX (BrSpec.at ?hb) ?kB ?kF ?kX ?kN ?kS ?kR ?kT ?kK ?kD ?kU ?_; (case hb => assumption); kwd_inv); k_dflt (rintro v' l' X' h' tk' hX' ⟨r', q', l1', vs', _, _, _, e1', e2', hS'⟩ F' N' ne'); subst e1'; subst e2'; (simp only [List.cons_append, List.nil_append] at N'); (simp only [AllApart, AllNe, and_true] at ne'); (try dsimp only); (try k_sweep)) | fail "row")
  trivial
-- part A6
set_option maxHeartbeats 2000000 in
theorem alternation_spec {w : World} {x fl : Str} {k k' : Int} {cs' : List Str} {fb : Bool} (HB : BrSpec w x fl k k' cs' fb)
    (hc : Txt.slice x (some k') (some (k' + ((Str.ofString "|").length : Int))) ≠ Str.ofString "|") (hx : x.length ≤ 1000) (k0 : 0 ≤ k') (k1 : k' ≤ 900) {p d : Addr} {tw t1 t2 t3 t4 t5 t6 t7 tx u1 u2 u3 u4 : Nat} {tot gr de : Int} {nm sp : Addr} :
    Spec w 768 [.ref p, .str fl tw] [(p, ptObj d), (d, ptDict w t1 t2 t3 t4 t5 t6 t7 tx u1 u2 u3 u4 7 x tot k gr de nm sp)] 14 120 (Post (AltP w x k' cs' fb p d t1 t2 t3 t4 t5 t6 t7 tx u1 u3 u4 tot gr de nm sp)) := by
  intro mean mg mb dp un gd cn cs a ccd cl outer A₀ base h₀ L m s Q E B F X N T hk hd hu ret
  have hpd := neN (pt_ne N)
  ktr_unf
  k_steps
  k_dflt (refine' spec_fin ret (by assumption) (by assumption) (by assumption) (by assumption) (by assumption) ⟨_, _, rfl, ‹TupsIn _›, _, _, _, _, _, _, rfl, rfl, ‹Signs _ _ _ _›⟩ ?_; kt_eqs)
theorem rowsA6_1 : True := by
  k_with "m call ref" => (first | (k_here; (with_reducible show wpAny _ _ (call (Value.ref 768) _) _ _ _); k_dflt (refine' Spec.tkX (alternation_spec ?hb ?hc ?hx ?k0 ?k1) ?kB ?kF ?kX ?kN ?kS ?kR ?kT ?kK ?kD ?kU ?_; (case hb => assumption); (case hc => tb_rel); (case hx => tb_rel); (case k0 => tb_rel); (case k1 => tb_rel); kwd_inv); k_dflt (rintro v' l' X' h' tk' hX' ⟨q', l1', vs', _, _, _, e1', e2', hS'⟩ F' N' ne'); subst e1'; subst e2'; (simp only [List.cons_append, List.nil_append] at N'); (simp only [AllApart, AllNe, and_true] at ne'); (try dsimp only); (try k_sweep)) | fail "row")
  trivial
-- part H0
/-- a stop of the walk -/
noncomputable def Hold (P : Prop) : Prop := P
theorem Hold.out {P : Prop} (h : Hold P) : P := h
theorem Hold.go {P : Prop} (h : P) : Hold P := h
section
variable {prog : Program} {w : World} {A : Around} {E : Value → Shared → Prop} {env : Env} {test : PySem.Expr} {body orelse : List Stmt} {Q : Flow → Shared → Prop}
/-- a while by an invariant with a measure -/
theorem whl_ind (Inv : Nat → Shared → Prop) (step : ∀ n s, (∀ m s', m < n → Inv m s' → WhlRest prog w A E env test body orelse Q 0 s') → Inv n s → WhlRest prog w A E env test body orelse Q 1 s) : ∀ n s, Inv n s → WhlRest prog w A E env test body orelse Q 0 s := fun n => by
  induction n using Nat.strongRecOn with
  | _ n ih => exact fun s h => step n s (fun m s' hm h' => ih m hm s' h') h
end
theorem Fr.map9 {h₀ h : Heap} {L : Addr} {m m' : Str → Option Value} (F : Fr h₀ L h m) (e : ∀ y, m y = m' y) : Fr h₀ L h m' := (funext e : m = m') ▸ F
theorem News.sub9 {h₀ h : Heap} {L : Addr} {l l' : Led} (N : News h₀ L h l) (hs : ∀ q ∈ l', q ∈ l) : News h₀ L h l' := fun q hq => N q (hs q hq)
theorem News.cons9 {h₀ h : Heap} {L : Addr} {l X : Led} {q : Addr × Obj} (N : News h₀ L h l) (hq : q ∈ X) (hs : ∀ r ∈ X, r ∈ l) : News h₀ L h (q :: l) := fun r hr => by
  rcases List.mem_cons.mp hr with rfl | hr
  · exact N _ (hs _ hq)
  · exact N _ hr
section
variable {w : World} {A : Around} {E : Value → Shared → Prop} {s : Shared} {env : Env} {h₀ : Heap} {target : PySem.Expr} {body : List Stmt} {Q : Flow → Shared → Prop}
/-- a turn's end, the ledger grown -/
noncomputable def GrowEnd (h₀ : Heap) (L I : Addr) (oI : Obj) (J : (Str → Option Value) → Led → Prop) (s₁ s₂ : Shared) : Prop :=
  ∃ h' tk m' news', s₂ = { s₁ with heap := h', toks := tk } ∧ Fr h₀ L h' m' ∧ News h₀ L h' ((I, oI) :: news') ∧ (∀ p ∈ news', p.1 ≠ I) ∧ J m' news'
noncomputable def GrowPost (h₀ : Heap) (L I : Addr) (oI : Obj) (J : (Str → Option Value) → Led → Prop) (s₁ : Shared) (Q : Flow → Shared → Prop) (f : Flow) (s₂ : Shared) : Prop :=
  match f with
  | .ret v => Q (.ret v) s₂
  | .brk => Q .next s₂
  | _ => GrowEnd h₀ L I oI J s₁ s₂
theorem subL_of : ∀ {l l' : Led}, (∀ q ∈ l, q ∈ l') → SubL l l'
  | [], _, _ => trivial
  | _ :: _, _, h => ⟨h _ (.head _), subL_of fun q hq => h q (.tail _ hq)⟩
/-- a loop over a list, by what holds of the items left, the names and the ledger -/
theorem list_grow {ax : Addr} {lo : Obj} {vs : List Value} {n : Nat} {m₀ : Str → Option Value} {news : Led} (J : List Value → (Str → Option Value) → Led → Prop)
    (hh : A.handled = none) (F : Fr h₀ env.locals s.heap m₀) (N : News h₀ env.locals s.heap news) (hm : (ax, lo) ∈ news) (hc : lo.cls = .type "list") (hd : lo.data = .seq vs.toArray n) (hj : J vs m₀ news) (hk : ∀ vs m n, J vs m n → (ax, lo) ∈ n)
    (turn : ∀ v vs m₁ news₁ h tk I oI, J (v :: vs) m₁ news₁ → oI.cls = .type "list_iterator" → (∀ p ∈ news₁, p.1 ≠ I) → Fr h₀ env.locals h m₁ → News h₀ env.locals h ((I, oI) :: news₁) →
      wpAny (model pE w) A (assign target env v) (fun _ s₂ => wpAny (model pE w) A (execs body env) (GrowPost h₀ env.locals I oI (J vs) { s with heap := h, toks := tk } Q) E s₂) E { s with heap := h, toks := tk })
    (done : ∀ m₁ news₁ h tk, J [] m₁ news₁ → Fr h₀ env.locals h m₁ → News h₀ env.locals h news₁ → Q .next { s with heap := h, toks := tk }) :
    wpAny (model pE w) A (pyIter (.ref ax)) (fun it s₂ => TurnsAt pE w A h₀ env target body Q E it s₂) E s := by
  refine iter_listTurns hh F N hm hc hd fun I hI => ?_
  suffices H : ∀ (us : List Value) (m : Str → Option Value) (nw : Led), J us m nw → (∀ p ∈ nw, p.1 ≠ I) → ItemsRest pE w A E h₀ env target body Q s [(I, "list_iterator")] [(ax, lo)] (us.map .val) m nw from
    H _ _ _ hj fun p hp => Nat.ne_of_lt (hI p hp)
  intro us
  induction us with
  | nil => exact fun m nw j _ => ItemsRest.zero fun h tk F N => done m nw h tk j F N
  | cons u us ih =>
    refine fun m nw j hne => ItemsRest.val fun h tk F => AllObj.cons fun o ho => AllObj.nil fun N => ?_
    refine wpAny_mono (turn u us m nw h tk I o j ho hne F N) (fun _ _ p => wpAny_mono p (fun f s₂ p => ?_) fun _ _ e => e) fun _ _ e => e
    have fin : GrowEnd h₀ env.locals I o (J us) { s with heap := h, toks := tk } s₂ → UnrEndW h₀ env.locals { s with heap := h, toks := tk } [(I, o)] (fun m' n' => SubL [(ax, lo)] n' ∧ ItemsRest pE w A E h₀ env target body Q s [(I, "list_iterator")] [(ax, lo)] (us.map .val) m' n') s₂ := by
      rintro ⟨h', tk', m', n', e, F', N', ho', j'⟩
      refine ⟨h', tk', m', n', e, F', N', fun p hp q hq => by rw [List.mem_singleton.mp hq]; exact ho' p hp, ⟨hk _ _ _ j', trivial⟩, ih m' n' j' ho'⟩
    cases f with
    | ret v => exact p
    | brk => exact p
    | next => exact fin p
    | cont => exact fin p
end
theorem Signs.mono {fb : Bool} {X Y : Led} {cs : List Str} {vs : List Value} (h : Signs fb X cs vs) (s : ∀ q ∈ X, q ∈ Y) : Signs fb Y cs vs := by
  induction h with
  | nil => exact .nil
  | cons m _ ih => exact .cons (s _ m) ih
theorem Signs.snoc {fb : Bool} {X : Led} {cs : List Str} {vs : List Value} {t : Addr} {z1 z2 : Nat} {c : Str} (h : Signs fb X cs vs) (m : (t, signObj z1 c z2 fb) ∈ X) : Signs fb X (cs ++ [c]) (vs ++ [.ref t]) := by
  induction h with
  | nil => exact .cons m .nil
  | cons m' _ ih => exact .cons m' ih
-- part A7
/-- the signs of a branch, from a place on to its end -/
inductive ReadsB (x : Str) : Int → List Str → Int → Prop
  | nil {k : Int} : Txt.slice x (some k) (some (k + 1)) = Str.ofString "" → Txt.slice x (some k) (some (k + ((Str.ofString "(?#").length : Int))) ≠ Str.ofString "(?#" → ReadsB x k [] k
  | cons {k k' : Int} {c : Str} {cs : List Str} : Txt.slice x (some k) (some (k + 1)) = c → (c = Str.ofString "a" ∨ c = Str.ofString "b") → Txt.slice x (some k) (some (k + ((Str.ofString "(?#").length : Int))) ≠ Str.ofString "(?#" →
    Txt.slice x (some k) (some (k + ((Str.ofString "(?").length : Int))) ≠ Str.ofString "(?" → ReadsB x (k + 1) cs k' → ReadsB x k (c :: cs) k'
theorem ReadsB.le {x : Str} {k k' : Int} {cs : List Str} (h : ReadsB x k cs k') : k ≤ k' := by
  induction h with
  | nil _ _ => exact Int.le_refl _
  | cons _ _ _ _ _ ih => omega
theorem ReadsB.first {x : Str} {k k' : Int} {cs : List Str} (h : ReadsB x k cs k') : ∃ c, Txt.slice x (some k) (some (k + 1)) = c ∧ (c = Str.ofString "" ∨ c = Str.ofString "a" ∨ c = Str.ofString "b") ∧ Txt.slice x (some k) (some (k + ((Str.ofString "(?#").length : Int))) ≠ Str.ofString "(?#" := by
  cases h with
  | nil h n => exact ⟨_, h, .inl rfl, n⟩
  | cons h hc n _ _ => exact ⟨_, h, .inr hc, n⟩
theorem ReadsB.len {x : Str} {k k' : Int} {cs : List Str} (h : ReadsB x k cs k') : k + cs.length = k' := by
  induction h with
  | nil _ _ => simp
  | cons _ _ _ _ _ ih => rw [List.length_cons]; omega
theorem Signs.many {fb : Bool} {X : Led} {cs : List Str} {vs : List Value} (h : Signs fb X cs vs) : vs.length = cs.length := by
  induction h with
  | nil => rfl
  | cons _ _ ih => rw [List.length_cons, List.length_cons, ih]
noncomputable abbrev brMap (o : Option Value) (lp p : Addr) (fl : Str) (tw : Nat) : Str → Option Value := fun y => if y = Str.ofString "changed" then o else if y = Str.ofString "parts" then some (.ref lp) else if y = Str.ofString "flags" then some (.str fl tw) else if y = Str.ofString "state" then some (.ref p) else none
theorem br_map0 {lp p : Addr} {fl : Str} {tw : Nat} {y : Str} : (if y = Str.ofString "parts" then some (.ref lp) else List.lookup y [(Str.ofString "flags", .str fl tw), (Str.ofString "state", .ref p)]) = brMap none lp p fl tw y := by
  by_cases e1 : y = Str.ofString "changed"
  · subst e1; rfl
  · by_cases e2 : y = Str.ofString "parts"
    · subst e2; rfl
    · by_cases e3 : y = Str.ofString "flags"
      · subst e3; rfl
      · by_cases e4 : y = Str.ofString "state"
        · subst e4; rfl
        · simp [brMap, e1, e2, e3, e4, List.lookup, beq_false_of_ne e3, beq_false_of_ne e4]
/-- a while whose turns are not written out -/
noncomputable def WhlOn : Prop := True
theorem rowsA7_1 : True := by
  k_with "m exec While Compare" => (first | (k_here; (with_reducible rename WhlOn => hW); k_dflt (refine whl_start 0 ?_)) | fail "row")
  k_with "m WhlRest" => (first | ((with_reducible rename WhlOn => hW); (with_reducible show WhlRest _ _ _ _ _ _ _ _ _ 0 _); refine Hold.out ?_) | fail "row")
  trivial
set_option maxHeartbeats 2000000 in
theorem branch_all {w : World} {x fl : Str} {k k' : Int} {fb : Bool} {cs' : List Str} (hR : ReadsB x k cs' k') (hx : x.length ≤ 1000) (k0 : 0 ≤ k) (k1 : k' ≤ 900)
    (hfl : (fl = Str.ofString "" ∧ fb = false) ∨ (fl = Str.ofString "i" ∧ fb = true)) : BrSpec w x fl k k' cs' fb := by
  intro p d tw t1 t2 t3 t4 t5 t6 t7 tx u1 u2 u3 u4 tot gr de nm sp
  intro mean mg mb dp un gd cn cs a ccd cl outer A₀ base h₀ L m s Q E B F X N T hk hd hu ret
  have hpd := neN (pt_ne N)
  have hfl' : fl = Str.ofString "" ∨ fl = Str.ofString "i" := hfl.imp And.left And.left
  have hW : WhlOn := trivial
  ktr_unf
  k_steps
  rename Fr _ _ _ (upd9 _ _ _) => F8
  rename News _ _ _ _ => N8
  refine Hold.go (whl_ind (fun n s' => ∃ h tk o X1 vs u2 z k1 cs1 done, n = cs1.length ∧ s' = { s with heap := h, toks := tk } ∧ Fr g' L' h (brMap o l' p fl tw) ∧
    News g' L' h ((l', listOf vs.toArray z) :: (p, ptObj d) :: (d, ptDict w t1 t2 t3 t4 t5 t6 t7 tx u1 u2 u3 u4 7 x tot k1 gr de nm sp) :: X1) ∧ TupsIn X1 ∧ Signs fb X1 done vs ∧ ReadsB x k1 cs1 k' ∧ done ++ cs1 = cs' ∧ 0 ≤ k1) ?step cs'.length _ ?init)
  case init => exact ⟨_, _, none, [], [], _, _, k, cs', [], rfl, rfl, Fr.map9 F8 (fun y => br_map0), News.sub9 N8 (by kt_eqs), (fun _ h => nomatch h), .nil, hR, rfl, k0⟩
  case step =>
    rintro n s' IH ⟨h1, tk1, o1, X1, vs1, u21, z1, k2, cs1, done1, rfl, rfl, F1, N1, hX1, S1, R1, e1, k20⟩
    clear F8 N8
    have hk2 : k2 ≤ 900 := Int.le_trans R1.le k1
    cases R1 with
    | nil hc hn =>
      rw [List.append_nil] at e1
      subst e1
      k_steps
      k_dflt (refine' spec_fin ret (by assumption) (by assumption) (by assumption) (by assumption) (by assumption) ⟨_, X1, rfl, hX1, _, _, _, _, _, _, _, rfl, rfl, S1⟩ ?_; kt_eqs)
    | @cons _ _ c cs2 hc hcs hn hm R =>
      have hw := goes_on hcs
      have hv : vs1.length ≤ 900 := by
        have h1 := S1.many
        have h2 := congrArg List.length e1
        have h3 := hR.len
        rw [List.length_append] at h2
        omega
      obtain ⟨c9, hc9, hcs9, hn9⟩ := R.first
      k_steps
      rename Fr _ _ _ (upd9 _ _ _) => F8
      rename News _ _ _ _ => N8
      try simp only [List.push_toArray] at N8
      exact Hold.go (IH _ _ (Nat.lt_succ_self _) ⟨_, _, some .none, (_, signObj _ c _ fb) :: X1, vs1 ++ [.ref _], _, _, _, cs2, done1 ++ [c], rfl, rfl, Fr.map9 F8 (fun y => by simp only [brMap, upd9]; split <;> rfl), News.sub9 N8 (by kt_eqs), List.forall_mem_cons.mpr ⟨rfl, hX1⟩, (S1.mono fun _ h => .tail _ h).snoc (.head _), R, by rw [List.append_assoc]; exact e1, by omega⟩)
-- part B1
noncomputable abbrev ownOf (fl : Str) (b : Bool) : Prop := (b = false ∧ (fl = Str.ofString "" ∨ fl = Str.ofString "g" ∨ fl = Str.ofString "cg")) ∨ (b = true ∧ (fl = Str.ofString "i" ∨ fl = Str.ofString "gi"))
noncomputable abbrev kept (b : Bool) : Str := if b then Str.ofString "i" else Str.ofString ""
theorem in_abs {w : World} {A : Around} {E : Value → Shared → Prop} {s : Shared} {x y : Str} {t u : Tok} {b : Bool} {Q : Value → Shared → Prop} (hb : (!(Builtin.Str.occurrences x y 0 x.length 1).isEmpty) = b) (h : Q (.bool b) s) : wpAny (model pE w) A (compareOp .In (.str y u) (.str x t)) Q E s := by
  subst hb
  exact in_str h
theorem rowsB1_1 : True := by
  k_with "m compareOp In str str" => (first | (k_here; k_dflt (refine' in_abs ?hb9 ?_; (case hb9 => assumption))) | fail "row")
  trivial
set_option maxHeartbeats 4000000 in
theorem ownflags_spec {w : World} {fl : Str} {b : Bool} {tx : Nat} (hf : ownOf fl b) :
    Spec w 918 [.str fl tx] [] 4 60 (fun v l => (∃ t, v = .str (kept b) t) ∧ l = []) := by
  intro mean mg mb dp un gd cn cs a ccd cl outer A₀ base h₀ L m s Q E B F X N T hk hd hu ret
  have fs : (!(Builtin.Str.occurrences fl (Str.ofString "i") 0 fl.length 1).isEmpty) = b ∧ (!(Builtin.Str.occurrences fl (Str.ofString "m") 0 fl.length 1).isEmpty) = false ∧ (!(Builtin.Str.occurrences fl (Str.ofString "s") 0 fl.length 1).isEmpty) = false ∧ (!(Builtin.Str.occurrences fl (Str.ofString "x") 0 fl.length 1).isEmpty) = false := by
    rcases hf with ⟨rfl, rfl | rfl | rfl⟩ | ⟨rfl, rfl | rfl⟩ <;> decide +kernel
  obtain ⟨fi, fm, fs, fx⟩ := fs
  clear hf
  ktr_unf
  cases b
  all_goals k_steps
  all_goals k_dflt (refine' spec_fin ret (by assumption) (by assumption) (by assumption) (by assumption) (by assumption) ⟨⟨_, rfl⟩, rfl⟩ ?_; kt_eqs)
theorem rowsB1_2 : True := by
  k_with "m call ref" => (first | (k_here; (with_reducible show wpAny _ _ (call (Value.ref 918) _) _ _ _); k_dflt (refine' Spec.tk (ownflags_spec ?hf) ?kB ?kF ?kX ?kN ?kS ?kR ?kT ?kK ?kD ?kU ?_; (case hf => assumption); kwd_inv); k_dflt (rintro v' l' h' tk' ⟨⟨_, e1'⟩, e2'⟩ F' N' ne'); subst e1'; subst e2'; (simp only [List.nil_append] at N'); clear ne'; (try dsimp only); (try k_sweep)) | fail "row")
  trivial
-- part B2
noncomputable abbrev cgOf (x : Str) (n : Int) : Prop := (n = 0 ∧ (x = Str.ofString "" ∨ x = Str.ofString "a" ∨ x = Str.ofString "b" ∨ x = Str.ofString "bab")) ∨ (n = 1 ∧ x = Str.ofString "(a")
theorem rowsB2_1 : True := by
  k_with "m exec While" => (first | (k_here; k_dflt (refine whl_start 100 ?_)) | fail "row")
  k_with "m exec While Call" => (first | (k_here; k_dflt (refine whl_start 100 ?_)) | fail "row")
  k_with "m exec While Compare" => (first | (k_here; k_dflt (refine whl_start 100 ?_)) | fail "row")
  trivial
/-- a text that opens no group, no set and no escape -/
noncomputable def Plain9 (x : Str) : Prop := ∀ i : Int, 0 ≤ i → i < (x.length : Int) → (Txt.item x i == Str.ofString "\\") = false ∧ (Txt.item x i == Str.ofString "[") = false ∧ (Txt.slice x (some i) (some (i + 3)) == Str.ofString "(?#") = false ∧ (Txt.item x i == Str.ofString "(") = false
theorem plain_of {x : Str} (h : x.length ≤ 3) (k : ∀ n : Fin 3, n.val < x.length → (Txt.item x (n.val : Int) == Str.ofString "\\") = false ∧ (Txt.item x (n.val : Int) == Str.ofString "[") = false ∧ (Txt.slice x (some (n.val : Int)) (some ((n.val : Int) + 3)) == Str.ofString "(?#") = false ∧ (Txt.item x (n.val : Int) == Str.ofString "(") = false) : Plain9 x := by
  intro i h0 h1
  obtain ⟨n, rfl⟩ := Int.eq_ofNat_of_zero_le h0
  have h2 : n < x.length := Int.ofNat_lt.mp h1
  exact k ⟨n, Nat.lt_of_lt_of_le h2 h⟩ h2
noncomputable abbrev cgMap (x : Str) (tx : Nat) (i : Int) (t0 t1 : Nat) : Str → Option Value := fun y => if y = Str.ofString "at" then some (.int i t1) else if y = Str.ofString "found" then some (.int 0 t0) else if y = Str.ofString "text" then some (.str x tx) else none
theorem cg_map0 {x : Str} {tx t0 t1 : Nat} {y : Str} : upd9 (upd9 (fun y => List.lookup y [(Str.ofString "text", .str x tx)]) (Str.ofString "found") (.int 0 t0)) (Str.ofString "at") (.int 0 t1) y = cgMap x tx 0 t0 t1 y := by
  by_cases e1 : y = Str.ofString "at"
  · subst e1; rfl
  · by_cases e2 : y = Str.ofString "found"
    · subst e2; rfl
    · by_cases e3 : y = Str.ofString "text"
      · subst e3; rfl
      · simp [upd9, cgMap, e1, e2, e3, List.lookup, beq_false_of_ne e3]
/-- a while whose turns are not written out -/
noncomputable def WhlCg : Prop := True
theorem rowsB2_2 : True := by
  k_with "m exec While Compare" => (first | (k_here; (with_reducible rename WhlCg => hW); k_dflt (refine whl_start 0 ?_)) | fail "row")
  k_with "m exec While" => (first | (k_here; (with_reducible rename WhlCg => hW); k_dflt (refine whl_start 0 ?_)) | fail "row")
  k_with "m WhlRest" => (first | ((with_reducible rename WhlCg => hW); (with_reducible show WhlRest _ _ _ _ _ _ _ _ _ 0 _); refine Hold.out ?_) | fail "row")
  k_with "m WhlIf" => (first | ((with_reducible rename WhlCg => hW); first | (refine WhlIf.yes (decide_eq_true (by assumption)) ?_) | (refine WhlIf.no (decide_eq_false (by assumption)) ?_)) | fail "row")
  trivial
set_option maxHeartbeats 4000000 in
theorem count_groups_spec {w : World} {x : Str} {n : Int} {tx : Nat} (hc : cgOf x n) :
    Spec w 660 [.str x tx] [] 6 80 (fun v l => (∃ t, v = .int n t) ∧ l = []) := by
  intro mean mg mb dp un gd cn cs a ccd cl outer A₀ base h₀ L m s Q E B F X N T hk hd hu ret
  rcases hc with ⟨rfl, hx⟩ | ⟨rfl, rfl⟩
  · have P : x.length ≤ 3 ∧ Plain9 x := by
      rcases hx with rfl | rfl | rfl | rfl
      · exact ⟨by decide, plain_of (by decide) (by decide +kernel)⟩
      · exact ⟨by decide, plain_of (by decide) (by decide +kernel)⟩
      · exact ⟨by decide, plain_of (by decide) (by decide +kernel)⟩
      · exact ⟨by decide, plain_of (by decide) (by decide +kernel)⟩
    obtain ⟨hl, P⟩ := P
    have hl9 : x.length ≤ 1000 := Nat.le_trans hl (by decide)
    clear hx
    have hW : WhlCg := trivial
    ktr_unf
    k_steps
    rename Fr _ _ _ (upd9 _ _ _) => F8
    rename News _ _ _ _ => N8
    refine Hold.go (whl_ind (fun n s' => ∃ h tk i t0 t1, (n : Int) = x.length - i ∧ 0 ≤ i ∧ s' = { s with heap := h, toks := tk } ∧ Fr g' L' h (cgMap x tx i t0 t1) ∧ News g' L' h []) ?step x.length _ ?init)
    case init => exact ⟨_, _, 0, _, _, (Int.sub_zero _).symm, Int.le_refl _, rfl, Fr.map9 F8 (fun y => cg_map0), fun _ h => nomatch h⟩
    case step =>
      rintro n s' IH ⟨h1, tk1, i, t0, t1, hn, h0, rfl, F1, N1⟩
      clear F8 N8
      by_cases hlt : i < (x.length : Int)
      · obtain ⟨p1, p2, p3, p4⟩ := P i h0 hlt
        k_steps
        rename Fr _ _ _ (upd9 _ _ _) => F8
        exact Hold.go (IH (n - 1) _ (by omega) ⟨_, _, i + 1, _, _, by omega, by omega, rfl, Fr.map9 F8 (fun y => by simp only [cgMap, upd9]; split <;> rfl), fun _ h => nomatch h⟩)
      · k_steps
        k_dflt (refine' spec_fin ret (by assumption) (by assumption) (by assumption) (by assumption) (by assumption) ⟨⟨_, rfl⟩, rfl⟩ ?_; kt_eqs)
  · ktr_unf
    k_steps
    all_goals first | ((with_reducible rename (_ ∨ _) => hbad); exfalso; revert hbad; decide +kernel; done) | k_dflt (refine' spec_fin ret (by assumption) (by assumption) (by assumption) (by assumption) (by assumption) ⟨⟨_, rfl⟩, rfl⟩ ?_; kt_eqs)
theorem rowsB2_3 : True := by
  k_with "m call ref" => (first | (k_here; (with_reducible show wpAny _ _ (call (Value.ref 660) _) _ _ _); k_dflt (refine' Spec.tk (count_groups_spec ?hc) ?kB ?kF ?kX ?kN ?kS ?kR ?kT ?kK ?kD ?kU ?_; (case hc => assumption); kwd_inv); k_dflt (rintro v' l' h' tk' ⟨⟨_, e1'⟩, e2'⟩ F' N' ne'); subst e1'; subst e2'; (simp only [List.nil_append] at N'); clear ne'; (try dsimp only); (try k_sweep)) | fail "row")
  trivial
-- part C1
inductive ParseP (w : World) (cs : List Str) (fb : Bool) (v : Value) (l : Led) (X : Led) : Prop
  | mk (r : Addr) (q : Addr) (l1 : Addr) (vs : List Value) (nm : Addr) (o : Obj) (z1 : Nat) (z2 : Nat) (z3 : Nat) : (v = .ref r) → (l = [(r, tupObj [.ref q, .int 0 z3, .ref nm]), (q, seqObj z1 l1), (l1, listOf vs.toArray z2), (nm, o)]) → (Signs fb X cs vs) → (o.IsDictOf (strKind pE w) []) → ((nm == sysModules) = false) → ParseP w cs fb v l X
theorem rowsC1_1 : True := by
  k_with "m exec For Tuple Attribute cons nil" => (first | (k_here; (rename Fr _ _ _ _ => lF'); (with_unfolding_all refine' For_turns lF' ?_; k_whole)) | fail "row")
  k_with "m pyIter ref" => (first | (k_here; (with_reducible show wpAny _ _ (pyIter (Value.ref _)) (fun it s₂ => TurnsAt _ _ _ _ _ _ _ _ _ it s₂) _ _); k_dflt (refine iter_listTurns (vs := []) (by rfl) (by k_asm) (by k_asm) (by k_mem) (by rfl) (by rfl) ?_; intro I' l1')) | fail "row")
  trivial
/-- a place where two walks meet: a text -/
noncomputable def CutOn : Prop := True
noncomputable def CutP (h₀ : Heap) (L : Addr) (m : Str → Option Value) (news : Led) (s : Shared) (x : Str) (v : Value) (s' : Shared) : Prop := ∃ h' tk t, v = .str x t ∧ s' = { s with heap := h', toks := tk } ∧ Fr h₀ L h' m ∧ News h₀ L h' news
theorem cut_cell {M : Model} {A : Around} {E : Value → Shared → Prop} {t : Sem Value} {h₀ : Heap} {L : Addr} {m : Str → Option Value} {news : Led} {s S : Shared} {x : Str} {Q : Value → Shared → Prop} {c : Addr} {oc : Obj} (v : Option Value) (_ : Fr h₀ L S.heap m) (N7 : News h₀ L S.heap news) (hd : oc.data = .cell v) (hm : (c, oc) ∈ news)
    (walk : ∀ R o, o.data = .cell v → News h₀ L S.heap ((c, o) :: R) → wpAny M A t (CutP h₀ L m R s x) E S)
    (rest : ∀ h' tk t, Fr h₀ L h' m → News h₀ L h' news → Q (.str x t) { s with heap := h', toks := tk }) : wpAny M A t Q E S :=
  wpAny_mono (walk news oc hd (fun q hq => (List.mem_cons.mp hq).elim (fun e => e ▸ N7 _ hm) (N7 q))) (fun v s' ⟨h', tk, t, e1, e2, F, N⟩ => by subst e1; subst e2; exact rest h' tk t F N) fun _ _ e => e
theorem rowsC1_2 : True := by
  k_with "m eval Call Attribute" => (first | (k_here; (with_reducible rename CutOn => hcut); (with_reducible show wpAny _ _ (eval (PySem.Expr.Call (PySem.Expr.Attribute (PySem.Expr.Constant _ _ _) _ _) _ _ _) _) _ _ _); refine Hold.out ?_) | fail "row")
  k_with "m CompEnd" => (first | (k_here; k_dflt (refine' PyProof.Rows.LCg.CompEnd.intro ?F9 ?N9 _ ?s9 ?o9 trivial ?_; (case o9 => assumption); (case F9 => k_asm); (case N9 => k_asm); (case s9 => kt_eqs))) | fail "row")
  trivial
noncomputable def joinOf : List Stmt → PySem.Expr
  | _ :: .Assign _ (.Call _ (_ :: e :: _) _ _) _ :: _ => e
  | _ => .Constant .none 0 ⟨0, 0, 0, 0⟩
@[reducible] noncomputable def joinE : PySem.Expr := (⟨_, by conv => lhs; whnf⟩ : {b : PySem.Expr // joinOf B91 = b}).1
set_option maxHeartbeats 4000000 in
/-- the flags that parse_pattern heeds -/
theorem flags_join {w : World} {fl : Str} {fb : Bool} {tf : Nat} {mean : ExcName → Option Value} {mg mb : Str → Option Value} {dp un : Nat} {gd : Option (List Code)} {cn : Str} {cs : Scope} {a : Addr} {ccd : Value} {cl : List (Str × Addr)} {outer : List Env} {base g h : Heap} {L L' : Addr} {m : Str → Option Value} {s : Shared} {tk : Nat} {R : Led} {o : Obj} {E : Value → Shared → Prop}
    (hfl : (fl = Str.ofString "" ∧ fb = false) ∨ (fl = Str.ofString "i" ∧ fb = true)) (B : Below (ktrTop dp un gd cn cs L a ccd cl outer) base (envX cn cs L a ccd cl :: outer) g) (X : (KF w.params).In g) (T : TopE mean mg mb g) (F : Fr g L' h m) (N : News g L' h ((L' + 1, o) :: R)) (ho : o.data = .cell (some (.str fl tf))) :
    wpAny (model pE w) ((ktrTop dp un gd cn cs L a ccd cl outer).deeper (envOfC (Str.ofString "parse_pattern") Sc91 L' 836 (.ref 835))) (eval joinE (envOfC (Str.ofString "parse_pattern") Sc91 L' 836 (.ref 835))) (CutP g L' m R s fl) E { s with heap := h, toks := tk } := by
  refine (show (let e9 := envOfC (Str.ofString "parse_pattern") Sc91 L' 836 (.ref 835); let A9 := (ktrTop dp un gd cn cs L a ccd cl outer).deeper e9; wpAny (model pE w) A9 (eval joinE e9) (CutP g L' m R s fl) E { s with heap := h, toks := tk }) from ?_)
  intro e9 A9
  show wpAny _ _ (eval (PySem.Expr.Call _ _ _ _) _) _ _ _
  rcases hfl with ⟨rfl, rfl⟩ | ⟨rfl, rfl⟩
  all_goals k_steps
  all_goals exact ⟨_, _, _, rfl, rfl, by assumption, News.sub9 (by assumption) (by kt_eqs)⟩
set_option maxHeartbeats 4000000 in
theorem parse_spec {w : World} {x fl : Str} {k' : Int} {cs' : List Str} {fb : Bool} {n : Int} {tx tf : Nat} (hfl : (fl = Str.ofString "" ∧ fb = false) ∨ (fl = Str.ofString "i" ∧ fb = true)) (HB : BrSpec w x fl 0 k' cs' fb)
    (hc : Txt.slice x (some k') (some (k' + ((Str.ofString "|").length : Int))) ≠ Str.ofString "|") (hx : x.length ≤ 1000) (k0 : 0 ≤ k') (k1 : k' ≤ 900) (hk9 : (x.length : Int) ≤ k') (hcg : cgOf x n) :
    Spec w 836 [.str x tx, .str fl tf] [] 20 160 (Post (ParseP w cs' fb)) := by
  intro mean mg mb dp un gd cn cs a ccd cl outer A₀ base h₀ L m s Q E B F X N T hk hd hu ret
  ktr_unf
  have hcut : CutOn := trivial
  k_steps
  clear hcut
  rename Fr _ _ _ _ => F7
  rename News _ _ _ _ => N7
  rename (_ = Data.cell _) => d7
  k_dflt (refine' Hold.go (cut_cell (x := fl) (s := s) (some (.str fl tf)) F7 N7 d7 ?hm ?walk ?rest); (case hm => k_mem))
  case walk =>
    intro R oc hoc NR
    clear N7 d7
    exact flags_join hfl (by assumption) (by assumption) (by assumption) (by assumption) NR hoc
  case rest =>
  intro h9 tk9 t9 F9 N9
  clear F7 N7
  try dsimp only
  k_steps
  all_goals k_dflt (refine' spec_fin ret (by assumption) (by assumption) (by assumption) (by assumption) (by assumption) ⟨_, _, rfl, ‹TupsIn _›, _, _, _, _, _, _, _, _, _, rfl, rfl, ‹Signs _ _ _ _›, ‹Obj.IsDictOf (strKind pE w) _ []›, ‹(_ == sysModules) = false›⟩ ?_; kt_eqs)
theorem rowsC1_3 : True := by
  k_with "m call ref" => (first | (k_here; (with_reducible show wpAny _ _ (call (Value.ref 836) _) _ _ _); k_dflt (refine' Spec.tkX (parse_spec ?hf ?hb ?hc ?hx ?k0 ?k1 ?k9 ?cg) ?kB ?kF ?kX ?kN ?kS ?kR ?kT ?kK ?kD ?kU ?_; (case hf => assumption); (case hb => assumption); (case hc => tb_rel); (case hx => tb_rel); (case k0 => tb_rel); (case k1 => tb_rel); (case k9 => tb_rel); (case cg => assumption); kwd_inv); k_dflt (rintro v' l' X' h' tk' hX' ⟨r', q', l1', vs', nm', o', _, _, _, e1', e2', hS', hD', hY'⟩ F' N' ne'); subst e1'; subst e2'; (simp only [List.cons_append, List.nil_append] at N'); (simp only [AllApart, AllNe, and_true] at ne'); (try dsimp only); (try k_sweep)) | fail "row")
  trivial
-- part D1
section
variable {w : World} {f : Addr} {args : List Value} {foot foot' : Led} {D U : Nat} {P P' : Value → Led → Prop}
variable {mean : ExcName → Option Value} {mg mb : Str → Option Value} {dp un : Nat} {gd : Option (List Code)} {cn : Str} {cs : Scope} {a : Addr} {ccd : Value} {cl : List (Str × Addr)} {outer : List Env} {A₀ : Around} {base h₀ : Heap} {L : Addr} {m : Str → Option Value} {s : Shared} {Q E : Value → Shared → Prop} {news rest : Led}
/-- a larger footprint -/
theorem Spec.sub (S : Spec w f args foot D U P) (hs : ∀ q ∈ foot, q ∈ foot') (hP : ∀ v l, P v l → P' v l) : Spec w f args foot' D U P' := by
  intro mean mg mb dp un gd cn cs a ccd cl outer A₀ base h₀ L m s Q E B F X N T hk hd hu ret
  have hm : ∀ {b}, b ∈ foot.map (·.1) → b ∈ foot'.map (·.1) := fun h => by
    obtain ⟨q, hq, e⟩ := List.mem_map.mp h
    exact List.mem_map.mpr ⟨q, hs q hq, e⟩
  exact S mean mg mb dp un gd cn cs a ccd cl outer A₀ base h₀ L m s Q E B F X (fun q hq => N q (hs q hq)) T hk hd hu fun v l h' tk' hp F' N' K Z =>
    ret v l h' tk' (hP _ _ hp) F' N' (fun b o e n => K b o e fun h => n (hm h)) fun q hq => (Z q hq).imp hm id
/-- a call under a larger ledger, a part of the footprint only read -/
theorem Spec.tkR (wr ro : Led) (S : Spec w f args (wr ++ ro) D U P) (hro : ∀ v l, P v l → ∀ r ∈ ro, r ∈ l) (B : Below A₀ base outer h₀) (F : Fr h₀ L s.heap m) (X : (KF w.params).In h₀) (N : News h₀ L s.heap news) (hn : ∀ q ∈ ro, q ∈ news) (tk : Take wr news rest) (ap : Apart rest wr) (T : TopE mean mg mb h₀) (hk : cs.kind = .function) (hd : dp + D < recursionLimit) (hu : un + U < cLine)
    (ret : ∀ v l h' tk', P v l → Fr h₀ L h' m → News h₀ L h' (l ++ rest) → Q v { s with heap := h', toks := tk' }) :
    wpAny (model pE w) (ktrTop dp un gd cn cs L a ccd cl outer) (call (.ref f) args) Q E s := by
  refine S mean mg mb dp un gd cn cs a ccd cl outer A₀ base h₀ L m s Q E B F X (fun q hq => N q ((List.mem_append.mp hq).elim (tk.mem.1 q) (hn q))) T hk hd hu fun v l h' tk' hp F' N' K Z => ?_
  refine ret v l h' tk' hp F' fun q hq => ?_
  rcases List.mem_append.mp hq with hq | hq
  · exact N' q hq
  · have hqn := N q (tk.mem.2 q hq)
    by_cases hin : q.1 ∈ (wr ++ ro).map (·.1)
    · obtain ⟨r, hr, e⟩ := List.mem_map.mp hin
      rcases List.mem_append.mp hr with hr | hr
      · exact absurd e.symm (ap q hq r hr)
      · have er := (N r (hn r hr)).1
        rw [e, hqn.1] at er
        injection er with er
        have := N' r (hro v l hp r hr)
        rw [e, ← er] at this
        exact this
    · exact ⟨K q.1 q.2 hqn.1 hin, hqn.2⟩
/-- a part of the ledger told -/
theorem Spec.weak (S : Spec w f args foot D U P) (hP : ∀ v l, P v l → ∃ l', P' v l' ∧ ∀ q ∈ l', q ∈ l) : Spec w f args foot D U P' := by
  intro mean mg mb dp un gd cn cs a ccd cl outer A₀ base h₀ L m s Q E B F X N T hk hd hu ret
  exact S mean mg mb dp un gd cn cs a ccd cl outer A₀ base h₀ L m s Q E B F X N T hk hd hu fun v l h' tk' hp F' N' K Z => by
    obtain ⟨l', hp', hs⟩ := hP _ _ hp
    exact ret v l' h' tk' hp' F' (fun q hq => N' q (hs q hq)) K fun q hq => Z q (hs q hq)
/-- more that is only read -/
theorem Spec.wide {wr ro X₀ : Led} (S : Spec w f args (wr ++ ro) D U P) (hro : ∀ v l, P v l → ∀ r ∈ ro, r ∈ l) (hs : ∀ q ∈ ro, q ∈ X₀) (ap : ∀ {h₀ h : Heap} {L : Addr}, News h₀ L h (wr ++ X₀) → Apart X₀ wr) :
    Spec w f args (wr ++ X₀) D U (fun v l' => ∃ l, P v l ∧ l' = l ++ X₀) := by
  intro mean mg mb dp un gd cn cs a ccd cl outer A₀ base h₀ L m s Q E B F X N T hk hd hu ret
  have sub : ∀ q ∈ wr ++ ro, q ∈ wr ++ X₀ := fun q hq => List.mem_append.mpr ((List.mem_append.mp hq).imp id (hs q))
  have hm : ∀ {b}, b ∈ (wr ++ ro).map (·.1) → b ∈ (wr ++ X₀).map (·.1) := fun h => by
    obtain ⟨q, hq, e⟩ := List.mem_map.mp h
    exact List.mem_map.mpr ⟨q, sub q hq, e⟩
  refine S mean mg mb dp un gd cn cs a ccd cl outer A₀ base h₀ L m s Q E B F X (fun q hq => N q (sub q hq)) T hk hd hu fun v l h' tk' hp F' N' K Z => ?_
  refine ret v (l ++ X₀) h' tk' ⟨l, hp, rfl⟩ F' (fun q hq => ?_) (fun b o e n => K b o e fun h => n (hm h)) fun q hq => ?_
  · rcases List.mem_append.mp hq with hq | hq
    · exact N' q hq
    · have hqn := N q (List.mem_append_right _ hq)
      by_cases hin : q.1 ∈ (wr ++ ro).map (·.1)
      · obtain ⟨r, hr, e⟩ := List.mem_map.mp hin
        rcases List.mem_append.mp hr with hr | hr
        · exact absurd e.symm (ap N q hq r hr)
        · have er := (N r (List.mem_append_right _ (hs r hr))).1
          rw [e, hqn.1] at er
          injection er with er
          have := N' r (hro v l hp r hr)
          rw [e, ← er] at this
          exact this
      · exact ⟨K q.1 q.2 hqn.1 hin, hqn.2⟩
  · rcases List.mem_append.mp hq with hq | hq
    · exact (Z q hq).imp hm id
    · exact .inl (List.mem_map_of_mem (List.mem_append_right _ hq))
/-- a contract that only reads its footprint, and makes new objects -/
noncomputable def Adds (foot : Led) (P : Value → Led → Prop) (v : Value) (l : Led) : Prop := ∃ l0, l = l0 ++ foot ∧ P v l0
theorem Spec.tkN (S : Spec w f args foot D U (Adds foot P)) (B : Below A₀ base outer h₀) (F : Fr h₀ L s.heap m) (X : (KF w.params).In h₀) (N : News h₀ L s.heap news) (hn : ∀ q ∈ foot, q ∈ news) (T : TopE mean mg mb h₀) (hk : cs.kind = .function) (hd : dp + D < recursionLimit) (hu : un + U < cLine)
    (ret : ∀ v l h' tk', P v l → Fr h₀ L h' m → News h₀ L h' (l ++ news) → Q v { s with heap := h', toks := tk' }) :
    wpAny (model pE w) (ktrTop dp un gd cn cs L a ccd cl outer) (call (.ref f) args) Q E s :=
  Spec.tkR [] foot S (fun v l ⟨l0, e, _⟩ r hr => e ▸ List.mem_append_right _ hr) B F X N hn .nil (fun _ _ _ h => (nomatch h)) T hk hd hu fun v l h' tk' ⟨l0, e, hp⟩ F' N' =>
    ret v l0 h' tk' hp F' fun q hq => N' q (e ▸ (List.mem_append.mp hq).elim (fun h => List.mem_append_left _ (List.mem_append_left _ h)) fun h => List.mem_append_right _ h)
end
noncomputable abbrev mkObj (d : Addr) : Obj := instObj 399 d
noncomputable abbrev mkDict (w : World) (ta tb : Nat) (r : Addr) (reg : Int) (tr : Nat) : Obj := dictOf [En w "rows" ta (.ref r), En w "registers" tb (.int reg tr)] 2
theorem mk_ne {w : World} {h₀ h : Heap} {L p d r : Addr} {ta tb tr z : Nat} {reg : Int} {vs : List Value} {l : Led}
    (N : News h₀ L h ((p, mkObj d) :: (d, mkDict w ta tb r reg tr) :: (r, listOf vs.toArray z) :: l)) : @Ne Nat p d ∧ @Ne Nat p r ∧ @Ne Nat d r :=
  ⟨led_ne N (.head _) (.tail _ (.head _)) (by simp), led_ne N (.head _) (.tail _ (.tail _ (.head _))) (by simp), led_ne N (.tail _ (.head _)) (.tail _ (.tail _ (.head _))) (by simp)⟩
theorem rowsD1_1 : True := by
  k_with "m call builtin:len" => (first | (k_here; (with_reducible show wpAny _ _ (call (Value.builtin "len") [Value.ref _]) _ _ _); k_dflt (refine' len_list (News.isList ?N ?q) ?z ?_; (case N => k_asm); (case q => k_mem); (case z => (simp only [Array.size_push, List.size_toArray, List.length_append, List.length_cons, List.length_nil]; omega))); (try intro _); (try simp only [Array.size_push, List.size_toArray, List.length_append, List.length_cons, List.length_nil])) | fail "row")
  trivial
set_option maxHeartbeats 4000000 in
/-- a sign is added -/
theorem add_sign_spec {w : World} {p d r t : Addr} {ta tb tr z z2 z3 : Nat} {reg : Int} {vs : List Value} {c : Str} {fb : Bool} (hv : vs.length ≤ 100) :
    Spec w 410 [.ref p, .ref t] [(p, mkObj d), (d, mkDict w ta tb r reg tr), (r, listOf vs.toArray z), (t, signObj z2 c z3 fb)] 8 80
      (fun v l => v = .none ∧ ∃ z', l = [(p, mkObj d), (d, mkDict w ta tb r reg tr), (r, listOf (vs.toArray.push (.ref t)) z'), (t, signObj z2 c z3 fb)]) := by
  intro mean mg mb dp un gd cn cs a ccd cl outer A₀ base h₀ L m s Q E B F X N T hk hd hu ret
  have hne := mk_ne N
  ktr_unf
  k_steps
  k_dflt (refine' spec_fin ret (by assumption) (by assumption) (by assumption) (by assumption) (by assumption) ⟨rfl, _, rfl⟩ ?_; kt_eqs)
theorem add_sign_ro {w : World} {p d r t : Addr} {ta tb tr z2 z3 : Nat} {reg : Int} {vs : List Value} {c : Str} {fb : Bool} (v : Value) (l : Led) (h : v = .none ∧ ∃ z', l = [(p, mkObj d), (d, mkDict w ta tb r reg tr), (r, listOf (vs.toArray.push (.ref t)) z'), (t, signObj z2 c z3 fb)]) : ∀ q ∈ [(t, signObj z2 c z3 fb)], q ∈ l := by
  obtain ⟨_, _, rfl⟩ := h
  exact List.forall_mem_cons.mpr ⟨.tail _ (.tail _ (.tail _ (.head _))), List.forall_mem_nil _⟩
theorem rowsD1_2 : True := by
  k_with "m call ref" => (first | (k_here; (with_reducible show wpAny _ _ (call (Value.ref 410) _) _ _ _); k_dflt (refine' Spec.tkR [_, _, _] [_] (add_sign_spec ?hv) ?ro ?kB ?kF ?kX ?kN ?hn ?kS ?kR ?kT ?kK ?kD ?kU ?_; (case ro => exact add_sign_ro); (case kN => k_asm); (case hn => exact List.forall_mem_cons.mpr ⟨by k_mem, List.forall_mem_nil _⟩); kwd_inv; (case hv => first | (simp; done) | tb_rel)); k_dflt (rintro v' l' h' tk' ⟨e1', z', e2'⟩ F' N'); subst e1'; subst e2'; (simp only [List.cons_append, List.nil_append, List.push_toArray] at N'); (try dsimp only); (try k_sweep)) | fail "row")
  k_with "m exec For Name Subscript cons nil" => (first | (k_here; (rename Fr _ _ _ _ => lF'); (with_unfolding_all refine' For_turns lF' ?_; k_whole)) | fail "row")
  k_with "m pyIter ref" => (first | (k_here; (with_reducible show wpAny _ _ (pyIter (Value.ref _)) (fun it s₂ => TurnsAt _ _ _ _ _ _ _ _ _ it s₂) _ _); k_dflt ((first | refine iter_listTurns (vs := []) (by rfl) (by k_asm) (by k_asm) (by k_mem) (by rfl) (by rfl) ?_ | refine iter_listTurns (vs := [_]) (by rfl) (by k_asm) (by k_asm) (by k_mem) (by rfl) (by rfl) ?_ | refine iter_listTurns (vs := [_, _, _]) (by rfl) (by k_asm) (by k_asm) (by k_mem) (by rfl) (by rfl) ?_); intro I' l1'; (try k_lt l1'))) | fail "row")
  trivial
-- part D2
theorem rowsD2_1 : True := by
  k_with "m pyIter ref" => (first | (k_here; (with_reducible show wpAny _ _ (pyIter (Value.ref _)) (fun it s₂ => TurnsAt _ _ _ _ _ _ _ _ _ it s₂) _ _); refine Hold.out ?_) | fail "row")
  k_with "m GrowPost" => (first | (refine Hold.out ?_) | fail "row")
  k_with "m call ref" => (first | (k_here; (with_reducible show wpAny _ _ (call (Value.ref 410) [_, Value.ref _]) _ _ _); refine Hold.out ?_) | fail "row")
  trivial
theorem grow_next {h₀ h' : Heap} {L I : Addr} {oI : Obj} {J : (Str → Option Value) → Led → Prop} {s₁ : Shared} {Q : Flow → Shared → Prop} {tk : Nat} {m' : Str → Option Value} {news' all : Led} (F : Fr h₀ L h' m') (N : News h₀ L h' all) (hs : ∀ q ∈ (I, oI) :: news', q ∈ all) (ho : ∀ p ∈ news', p.1 ≠ I) (j : J m' news') :
    GrowPost h₀ L I oI J s₁ Q .next { s₁ with heap := h', toks := tk } := ⟨h', tk, m', news', rfl, F, fun q hq => N q (hs q hq), ho, j⟩
/-- the row maker at a sequence of signs -/
noncomputable def SeqP (w : World) (vs : List Value) (p d r q l1 : Addr) (ta tb tr zq z1 : Nat) (reg : Int) (X : Led) (v : Value) (l : Led) : Prop :=
  ∃ z, v = .none ∧ l = (p, mkObj d) :: (d, mkDict w ta tb r reg tr) :: (r, listOf vs.toArray z) :: (q, seqObj zq l1) :: (l1, listOf vs.toArray z1) :: X
noncomputable abbrev addMap (o wd : Option Value) (p q : Addr) : Str → Option Value := fun y => if y = Str.ofString "one" then o else if y = Str.ofString "word" then wd else if y = Str.ofString "node" then some (.ref q) else if y = Str.ofString "maker" then some (.ref p) else none
theorem add_map0 {wd : Value} {p q : Addr} {y : Str} : (if y = Str.ofString "word" then some wd else List.lookup y [(Str.ofString "node", .ref q), (Str.ofString "maker", .ref p)]) = addMap none (some wd) p q y := by
  have h1 : Str.ofString "one" ≠ Str.ofString "word" := by decide
  have h2 : Str.ofString "one" ≠ Str.ofString "node" := by decide
  have h3 : Str.ofString "one" ≠ Str.ofString "maker" := by decide
  have h4 : Str.ofString "node" ≠ Str.ofString "maker" := by decide
  by_cases e1 : y = Str.ofString "one"
  · subst e1; simp [addMap, List.lookup, h1, beq_false_of_ne h2, beq_false_of_ne h3]
  · by_cases e2 : y = Str.ofString "word"
    · simp [addMap, e1, e2, Ne.symm h1]
    · by_cases e3 : y = Str.ofString "node"
      · subst e3; rfl
      · by_cases e4 : y = Str.ofString "maker"
        · subst e4; rfl
        · simp [addMap, e1, e2, e3, e4, List.lookup, beq_false_of_ne e3, beq_false_of_ne e4]
theorem Signs.at {fb : Bool} {X : Led} {cs : List Str} {vs : List Value} (h : Signs fb X cs vs) : ∀ v ∈ vs, ∃ t z1 z2 c, v = .ref t ∧ (t, signObj z1 c z2 fb) ∈ X := by
  induction h with
  | nil => exact fun _ h => nomatch h
  | cons h _ ih => exact List.forall_mem_cons.mpr ⟨⟨_, _, _, _, rfl, h⟩, ih⟩
set_option maxHeartbeats 4000000 in
theorem add_seq {w : World} {p d r q l1 : Addr} {ta tb tr z z1 zq : Nat} {reg : Int} {fb : Bool} {X : Led} {cs' : List Str} {vs : List Value} (hlr : @Ne Nat l1 r) (hS : Signs fb X cs' vs) (hn : vs.length ≤ 100) (hX : TupsIn X) :
    Spec w 410 [.ref p, .ref q] ((p, mkObj d) :: (d, mkDict w ta tb r reg tr) :: (r, listOf ([] : List Value).toArray z) :: (q, seqObj zq l1) :: (l1, listOf vs.toArray z1) :: X) 14 120 (SeqP w vs p d r q l1 ta tb tr zq z1 reg X) := by
  intro mean mg mb dp un gd cn cs a ccd cl outer A₀ base h₀ L m s Q E B F X0 N T hk hd hu ret
  have hne := mk_ne N
  ktr_unf
  k_steps
  rename Fr _ _ _ (upd9 _ _ _) => F8
  rename News _ _ _ _ => N8
  have Sg := hS.at
  refine Hold.go (list_grow (vs := vs) (m₀ := addMap none (some (.str (Str.ofString "seq") zq)) p q) (fun us m' n' => ∃ o wd done z', m' = addMap o wd p q ∧ n' = (p, mkObj d) :: (d, mkDict w ta tb r reg tr) :: (r, listOf done.toArray z') :: (q, seqObj zq l1) :: (l1, listOf vs.toArray z1) :: X ∧ done ++ us = vs)
    (by rfl) (Fr.map9 F8 fun y => add_map0) (News.sub9 (l' := (p, mkObj d) :: (d, mkDict w ta tb r reg tr) :: (r, listOf ([] : List Value).toArray z) :: (q, seqObj zq l1) :: (l1, listOf vs.toArray z1) :: X) N8 (by kt_eqs)) (.tail _ (.tail _ (.tail _ (.tail _ (.head _))))) (by rfl) (by rfl) ⟨none, _, [], z, rfl, rfl, rfl⟩ ?hk ?turn ?done)
  case hk => rintro us m1 n1 ⟨o, wd, done, z', rfl, rfl, e⟩; exact .tail _ (.tail _ (.tail _ (.tail _ (.head _))))
  case done =>
    rintro m1 n1 h9 tk9 ⟨o, wd, done, z', rfl, rfl, e⟩ F9 N9
    rw [List.append_nil] at e
    subst e
    clear F8 N8
    dsimp only
    k_steps
    k_dflt (refine' spec_fin ret (by assumption) (by assumption) (by assumption) (by assumption) (by assumption) ⟨_, rfl, rfl⟩ ?_; kt_eqs)
  case turn =>
    rintro v us m1 n1 h9 tk9 I oI ⟨o, wd, done, z', rfl, rfl, e⟩ hcI hI F9 N9
    clear F8 N8
    obtain ⟨t, za, zb, c, rfl, ht⟩ := Sg v (by rw [← e]; exact List.mem_append_right _ (.head _))
    have hdn : done.length ≤ 100 := Nat.le_trans (by rw [← e, List.length_append]; exact Nat.le_add_right _ _) hn
    have N10 := News.cons9 N9 ht (fun x hx => .tail _ (.tail _ (.tail _ (.tail _ (.tail _ (.tail _ hx))))))
    clear N9
    have hIp : @Ne Nat p I := hI _ (.head _)
    have hId : @Ne Nat d I := hI _ (.tail _ (.head _))
    have hIr : @Ne Nat r I := hI _ (.tail _ (.tail _ (.head _)))
    dsimp only
    k_steps
    k_dflt (refine' Hold.go (Spec.tkR [(p, mkObj d), (d, mkDict w ta tb r reg tr), (r, listOf done.toArray z')] [(t, signObj za c zb fb)] (add_sign_spec hdn) add_sign_ro ?kB ?kF ?kX ?kN ?hn ?kS ?kR ?kT ?kK ?kD ?kU ?_); (case kN => k_asm); (case hn => exact List.forall_mem_cons.mpr ⟨by k_mem, List.forall_mem_nil _⟩); (case kB => k_asm); (case kF => k_asm); (case kX => k_asm); (case kS => repeat' (first | exact Take.nil | exact Sel.head | exact Take.all | refine' Take.cons ?_ ?_ | refine' Sel.tail ?_)); (case kR => repeat' (first | exact apart_nil | exact allNe_nil | refine' apart_cons ?_ ?_ | refine' allNe_cons ?_ ?_ | k_ne | (refine' tail_apart ?N9 ?X9 ?s9 ?b9; (case N9 => assumption); (case X9 => assumption); (case s9 => repeat' (first | exact sub_refl | refine' sub_cons ?_)); (case b9 => repeat' (first | exact both_nil | (refine' both_cons ?m9 ?c9 ?_; (case m9 => k_mem); (case c9 => (simp; done)))))))); (case kT => k_asm); (case kK => first | exact rfl | assumption); (case kD => ktr_room); (case kU => ktr_units))
    rintro v' l' h' tk' ⟨e1', z2', e2'⟩ F' N'
    subst e1'; subst e2'
    (simp only [List.cons_append, List.nil_append, List.push_toArray] at N'); (try dsimp only); (try k_sweep)
    k_steps
    rename Fr _ _ _ (upd9 _ _ _) => F8
    rename News _ _ _ _ => N8
    k_dflt (refine' Hold.go (grow_next (news' := (p, mkObj d) :: (d, mkDict w ta tb r reg tr) :: (r, listOf (done ++ [Value.ref t]).toArray _) :: (q, seqObj zq l1) :: (l1, listOf vs.toArray z1) :: X) (Fr.map9 (m' := addMap (some (Value.ref t)) wd p q) F8 fun y => by simp only [addMap, upd9]; split <;> rfl) N8 ?hs9 ?ho9 ⟨_, _, done ++ [Value.ref t], _, rfl, rfl, by rw [← e, List.append_assoc]; rfl⟩); (case hs9 => kt_eqs))
    case ho9 => exact List.forall_mem_cons.mpr ⟨hIp, List.forall_mem_cons.mpr ⟨hId, List.forall_mem_cons.mpr ⟨hIr, fun x hx => hI x (.tail _ (.tail _ (.tail _ hx)))⟩⟩⟩
theorem rowsD2_2 : True := by
  k_with "m call ref" => (first | (k_here; (with_reducible show wpAny _ _ (call (Value.ref 410) [_, Value.ref _]) _ _ _); k_dflt (refine' Spec.tk (add_seq ?lr ?hS ?hn ?hX) ?kB ?kF ?kX ?kN ?kS ?kR ?kT ?kK ?kD ?kU ?_; (case hS => assumption); kwd_inv; (case hn => assumption); (case hX => assumption); (case lr => k_ne)); k_dflt (rintro v' l' h' tk' ⟨z', e1', e2'⟩ F' N' ne'); subst e1'; subst e2'; clear ne'; (simp only [List.cons_append, List.append_nil] at N'); (try dsimp only); (try k_sweep)) | fail "row")
  trivial
-- part D3
noncomputable abbrev progObj (d : Addr) : Obj := instObj 364 d
noncomputable abbrev progDict (w : World) (ta tb tc td : Nat) (rl : Addr) (gr : Int) (tg : Nat) (reg : Int) (tr : Nat) (nm : Addr) : Obj :=
  dictOf [En w "rows" ta (.ref rl), En w "groups" tb (.int gr tg), En w "registers" tc (.int reg tr), En w "names" td (.ref nm)] 4
/-- a program made -/
inductive TreeP (w : World) (vs : List Value) (nm : Addr) (v : Value) (l : Led) : Prop
  | mk (x : Addr) (d : Addr) (rl : Addr) (e : Addr) (ta : Nat) (tb : Nat) (tc : Nat) (td : Nat) (gr : Int) (tg : Nat) (reg : Int) (tr : Nat) (z : Nat) (ze : Nat) : (v = .ref x) → (l = [(x, progObj d), (d, progDict w ta tb tc td rl gr tg reg tr nm), (rl, listOf (vs ++ [Value.ref e]).toArray z), (e, tupObj [.str (Str.ofString "end") ze])]) → TreeP w vs nm v l
theorem Signs.len {fb : Bool} {X : Led} {cs : List Str} {vs : List Value} (h : Signs fb X cs vs) : vs.length = cs.length := by
  induction h with
  | nil => rfl
  | cons _ _ ih => simp [ih]
theorem small_list {vs : List Value} (h : vs.length ≤ 100) : vs.toArray.size ≤ sizeLine := by
  rw [List.size_toArray]; exact Nat.le_trans h (by decide)
theorem rowsD3_1 : True := by
  k_with "m call builtin:list.append" => (first | (k_here; (dsimp only [List.cons_append, List.nil_append]); k_dflt (refine' append_K ?k1 ?k2 ?k3 ?_ ?z; (case k1 => k_asm); (case k2 => k_asm); (case k3 => k_upd); (case z => exact small_list (by assumption)); k_whole); intro h' F' N'; (try simp only [List.push_toArray] at N'); (try k_sweep)) | fail "row")
  trivial
set_option maxHeartbeats 4000000 in
theorem compile_tree_spec {w : World} {q l1 : Addr} {zq z1 ng : Nat} {gr : Int} {fb : Bool} {nm : Addr} {X : Led} {cs' : List Str} {vs : List Value} (hS : Signs fb X cs' vs) (hn : cs'.length = 0 ∨ cs'.length = 1 ∨ cs'.length = 3) (hX : TupsIn X) :
    Spec w 452 [.ref q, .int gr ng, .ref nm] ((q, seqObj zq l1) :: (l1, listOf vs.toArray z1) :: X) 20 160 (Adds ((q, seqObj zq l1) :: (l1, listOf vs.toArray z1) :: X) (TreeP w vs nm)) := by
  intro mean mg mb dp un gd cn cs a ccd cl outer A₀ base h₀ L m s Q E B F X N T hk hd hu ret
  have hv : vs.length ≤ 100 := by rw [hS.len]; omega
  ktr_unf
  k_steps
  k_dflt (refine' spec_fin ret (by assumption) (by assumption) (by assumption) (by assumption) (by assumption) ⟨_, rfl, _, _, _, _, _, _, _, _, _, _, _, _, _, _, rfl, rfl⟩ ?_; kt_eqs)
theorem rowsD3_2 : True := by
  k_with "m call ref" => (first | (k_here; (with_reducible show wpAny _ _ (call (Value.ref 452) _) _ _ _); k_dflt (refine' Spec.tkN (compile_tree_spec ?hS ?hn ?hX) ?kB ?kF ?kX ?kN ?kS ?kT ?kK ?kD ?kU ?_; (case hS => assumption); (case kB => k_asm); (case kF => k_asm); (case kX => k_asm); (case kN => k_asm); (case kS => kt_eqs); (case kT => k_asm); (case kK => first | exact rfl | assumption); (case kD => ktr_room); (case kU => ktr_units); (case hn => assumption); (case hX => assumption)); k_dflt (rintro v' l' h' tk' ⟨x', d', rl', e', _, _, _, _, _, _, _, _, _, _, e1', e2'⟩ F' N'); subst e1'; subst e2'; (simp only [List.cons_append, List.nil_append] at N'); (try dsimp only); (try k_sweep)) | fail "row")
  trivial
-- part D4
/-- a pattern compiled -/
inductive CompP (w : World) (cs : List Str) (fb : Bool) (v : Value) (l : Led) (X : Led) : Prop
  | mk (x : Addr) (d : Addr) (rl : Addr) (e : Addr) (nm : Addr) (o : Obj) (vs : List Value) (ta : Nat) (tb : Nat) (tc : Nat) (td : Nat) (gr : Int) (tg : Nat) (reg : Int) (tr : Nat) (z : Nat) (ze : Nat) : (v = .ref x) → (l = [(x, progObj d), (d, progDict w ta tb tc td rl gr tg reg tr nm), (rl, listOf (vs ++ [Value.ref e]).toArray z), (e, tupObj [.str (Str.ofString "end") ze]), (nm, o)]) → (Signs fb X cs vs) → (o.IsDictOf (strKind pE w) []) → ((nm == sysModules) = false) → CompP w cs fb v l X
set_option maxHeartbeats 4000000 in
theorem compile_spec {w : World} {x fl : Str} {k' : Int} {cs' : List Str} {fb : Bool} {n : Int} {tx tf : Nat} (hfl : (fl = Str.ofString "" ∧ fb = false) ∨ (fl = Str.ofString "i" ∧ fb = true)) (HB : BrSpec w x fl 0 k' cs' fb)
    (hc : Txt.slice x (some k') (some (k' + ((Str.ofString "|").length : Int))) ≠ Str.ofString "|") (hx : x.length ≤ 1000) (k0 : 0 ≤ k') (k1 : k' ≤ 900) (hk9 : (x.length : Int) ≤ k') (hcg : cgOf x n) (hn : cs'.length = 0 ∨ cs'.length = 1 ∨ cs'.length = 3) :
    Spec w 843 [.str x tx, .str fl tf] [] 24 200 (Post (CompP w cs' fb)) := by
  intro mean mg mb dp un gd cn cs a ccd cl outer A₀ base h₀ L m s Q E B F X N T hk hd hu ret
  ktr_unf
  k_steps
  k_dflt (refine' spec_fin ret (by assumption) (by assumption) (by assumption) (by assumption) (by assumption) ⟨_, _, rfl, ‹TupsIn _›, _, _, _, _, _, _, _, _, _, _, _, _, _, _, _, _, _, rfl, rfl, ‹Signs _ _ _ _›, ‹Obj.IsDictOf (strKind pE w) _ []›, ‹(_ == sysModules) = false›⟩ ?_; kt_eqs)
-- part E1
/-- the four patterns that are read, with their signs -/
noncomputable def PatOf (x : Str) (cs : List Str) : Prop := (x = Str.ofString "a" ∧ cs = [Str.ofString "a"]) ∨ (x = Str.ofString "b" ∧ cs = [Str.ofString "b"]) ∨ (x = Str.ofString "bab" ∧ cs = [Str.ofString "b", Str.ofString "a", Str.ofString "b"]) ∨ (x = Str.ofString "" ∧ cs = [])
theorem compile_all {w : World} {x fl : Str} {cs' : List Str} {fb : Bool} {tx tf : Nat} (hp : PatOf x cs') (hfl : (fl = Str.ofString "" ∧ fb = false) ∨ (fl = Str.ofString "i" ∧ fb = true)) :
    Spec w 843 [.str x tx, .str fl tf] [] 24 200 (Post (CompP w cs' fb)) := by
  rcases hp with ⟨rfl, rfl⟩ | ⟨rfl, rfl⟩ | ⟨rfl, rfl⟩ | ⟨rfl, rfl⟩
  · exact compile_spec (n := 0) hfl (branch_all (.cons (by decide +kernel) (.inl rfl) (by decide +kernel) (by decide +kernel) (.nil (by decide +kernel) (by decide +kernel))) (by decide) (by decide) (by decide) hfl) (by decide +kernel) (by decide +kernel) (by decide) (by decide) (by decide +kernel) (by decide +kernel) (by decide)
  · exact compile_spec (n := 0) hfl (branch_all (.cons (by decide +kernel) (.inr rfl) (by decide +kernel) (by decide +kernel) (.nil (by decide +kernel) (by decide +kernel))) (by decide) (by decide) (by decide) hfl) (by decide +kernel) (by decide +kernel) (by decide) (by decide) (by decide +kernel) (by decide +kernel) (by decide)
  · exact compile_spec (n := 0) hfl (branch_all (.cons (by decide +kernel) (.inr rfl) (by decide +kernel) (by decide +kernel) (.cons (by decide +kernel) (.inl rfl) (by decide +kernel) (by decide +kernel) (.cons (by decide +kernel) (.inr rfl) (by decide +kernel) (by decide +kernel) (.nil (by decide +kernel) (by decide +kernel))))) (by decide) (by decide) (by decide) hfl) (by decide +kernel) (by decide +kernel) (by decide) (by decide) (by decide +kernel) (by decide +kernel) (by decide)
  · exact compile_spec (n := 0) hfl (branch_all (.nil (by decide +kernel) (by decide +kernel)) (by decide) (by decide) (by decide) hfl) (by decide +kernel) (by decide +kernel) (by decide) (by decide) (by decide +kernel) (by decide +kernel) (by decide)
theorem rowsE1_1 : True := by
  k_with "m call ref" => (first | (k_here; (with_reducible show wpAny _ _ (call (Value.ref 843) _) _ _ _); k_dflt (refine' Spec.tkX (compile_all ?hp ?hf) ?kB ?kF ?kX ?kN ?kS ?kR ?kT ?kK ?kD ?kU ?_; (case hp => assumption); (case hf => assumption); kwd_inv); k_dflt (rintro v' l' X' h' tk' hX' ⟨x', d', rl', e', nm', o', vs', _, _, _, _, _, _, _, _, _, _, e1', e2', hS', hD', hY'⟩ F' N' ne'); subst e1'; subst e2'; (simp only [List.cons_append, List.nil_append] at N'); (simp only [AllApart, AllNe, and_true] at ne'); (try dsimp only); (try k_sweep)) | fail "row")
  trivial
-- part R1
noncomputable abbrev excObj (C t : Addr) (dd : Option Addr) (tb : Value) : Obj := { cls := .ref C, dict := dd, data := .fields #[.ref t, tb, .none, .none, .bool false, .none] }
noncomputable abbrev excTail : List Value := [.ref 305, .type "Exception", .type "BaseException", .type "object"]
section
variable {M : Model} {A : Around} {E : Value → Shared → Prop} {h : Heap} {g : Array GenState} {d : Drawn} {t : Nat} {os : OsState}
variable {nm q : Str} {C N : Addr} {bs : List Value} {hdct : Bool} {sn : List Str} {sub : List Value} {ab : Bool} {col : Option Bool} {dd : Option Addr} {k0 k1 k2 k3 k5 : Option Value}
theorem xcheck_init {e : Addr} {oe : Obj} {rest : List Value} {Q : Unit → Shared → Prop}
    (hC : h.get? C = some (excClassObj nm q C N bs excTail hdct sn sub ab col dd k0 k1 k2 k3 k5 "Exception.__new__")) (he : h.get? e = some oe) (hcls : oe.cls = .ref C) (hq : Q () ⟨h, g, d, t, os⟩) :
    wpAny M A (checkBuiltinCall "Exception.__init__" ⟨.ref e :: rest, []⟩) Q E ⟨h, g, d, t, os⟩ := by
  have F := PySem.F.excCall_Exception
  have hcB : (Value.ref C :: excTail).contains (.type "Exception") = true := by simp
  have hshort := F.noStar
  simp only [checkBuiltinCall, F.initKind, F.initSplit, F.initRow]
  repeat (first | (with_reducible refine wpAny_loadPart_at he ?_; rw [hcls]) | with_reducible refine wpAny_loadPart_at hC ?_ | (with_reducible refine wpAny_isSubtype_exc hC ?_; rw [hcB]) | wp_step)
  refine wpAny_onRaise ?_
  rw [show ∀ (a b : String) (n : Nat), Bind.check ⟨.positional, "*", "Exception", .self, [⟨"args", .varPos, false⟩]⟩ a b n (List.map (fun x => x.fst) ({ pos := Value.ref e :: rest } : Args).kw) = pure () from
    fun a b n => check_star_args _ _ _ _ _ _]
  exact wpAny_pure hq
theorem xcheck_new {rest : List Value} {Q : Unit → Shared → Prop} (hC : h.get? C = some (excClassObj nm q C N bs excTail hdct sn sub ab col dd k0 k1 k2 k3 k5 "Exception.__new__"))
    (hq : Q () ⟨h, g, d, t, os⟩) : wpAny M A (checkBuiltinCall "Exception.__new__" ⟨.ref C :: rest, []⟩) Q E ⟨h, g, d, t, os⟩ := by
  have F := PySem.F.excBase_Exception
  have hcont : (Value.ref C :: excTail).contains (.type "Exception") = true := by simp
  have hstar := F.noStar
  simp only [checkBuiltinCall, F.newKind, F.newSplit, F.newRow]
  repeat (first | refine wpAny_loadPart_at hC ?_ | (refine wpAny_isSubtype_exc hC ?_; rw [hcont]) | refine wpAny_staticBase_exc hC ?_ | refine wpAny_madeBy_exc hC ?_ | simp only [bne_self_eq_false, Bool.false_eq_true, if_false] | wp_step)
  exact hq
end
section
variable {prog : Program} {w : World} {A : Around} {E : Value → Shared → Prop} {R : Result → Shared → Prop} {h : Heap} {g : Array GenState} {d : Drawn} {t : Nat} {os : OsState}
variable {nm q : Str} {C N : Addr} {bs : List Value} {hdct : Bool} {sn : List Str} {sub : List Value} {ab : Bool} {col : Option Bool} {dd : Option Addr} {k0 k1 k2 k3 k5 : Option Value}
theorem xnew {rest : List Value} (hC : h.get? C = some (excClassObj nm q C N bs excTail hdct sn sub ab col dd k0 k1 k2 k3 k5 "Exception.__new__"))
    (hq : R (.ok (.ret (.ref (h.objs.size + 1)))) ⟨(h.push (tupObj rest)).push (excObj C h.objs.size none .none), g, d, t, os⟩) (hrest : rest.length ≤ sizeLine) :
    codeAny (model prog w) A (.builtin "Exception.__new__" ⟨.ref C :: rest, []⟩) R ⟨h, g, d, t, os⟩ := by
  have F := PySem.F.excBase_Exception
  have hends := F.ends
  have hcB : (Value.ref C :: excTail).contains (.type "Exception") = true := by simp
  have hcA : (Value.ref C :: excTail).contains (.type "AttributeError") = false := by simp
  have hcN : (Value.ref C :: excTail).contains (.type "NameError") = false := by simp
  refine codeAny_builtinAt F.entry ?_
  unfold Builtin.«BaseException.__new__»
  refine PySem.wpAt_bind ?_
  show PySem.wpAt _ _ _ (stack >>= _) _ _ _
  refine PySem.wpAt_bind (PySem.wpAt_stack fun p below => PySem.wpAt_of_wpAny ?_)
  wp_walk
  refine PySem.wpAt_of_wpAny ?_
  rw [F.owner]
  repeat (first | with_reducible refine wpAny_madeHere_exc F.canon hC ?_ | with_reducible refine wpAny_loadPart_at hC ?_ | (with_reducible refine wpAny_isSubtype_exc hC ?_; first | rw [hcB] | rw [hcA] | rw [hcN]) | wp_step)
  show R _ _
  rw [Heap.size_push]
  exact hq
/-- the class called: the object with its arguments, then its own constructor -/
theorem xcall {rest : List Value} {fI : Addr} {Q : Value → Shared → Prop} (hC : h.get? C = some (excClassObj nm q C N bs excTail hdct sn sub ab col dd k0 k1 k2 k3 k5 "Exception.__new__"))
    (hi : Looks (model prog w) h (typeLookup (.ref C) "__init__") (some (.ref fI))) (hb : ∀ self, Looks (model prog w) h (bindSpecial (.ref fI) self) (.ref fI, [self]))
    (hq : wpAny (model prog w) (A.under (.builtin "type.__call__" ⟨.ref C :: rest, []⟩)) (call (.ref fI) (.ref (h.objs.size + 1) :: rest)) (fun r s' => r = .none ∧ Q (.ref (h.objs.size + 1)) s') E ⟨(h.push (tupObj rest)).push (excObj C h.objs.size none .none), g, d, t, os⟩) (hrest : rest.length ≤ sizeLine) :
    wpAny (model prog w) A (call (.ref C) rest) Q E ⟨h, g, d, t, os⟩ := by
  have F := PySem.F.excBase_Exception
  have f1 := tc_lookup
  have f2 := tc_bind (.ref C)
  have hT : (⟨h, g, d, t, os⟩ : Shared).TypeIs (.ref C) "type" := ⟨_, hC, rfl⟩
  refine wpAny_call (codeAny_of_tree ?_)
  show wpAny _ _ (callAny (.ref C) _) _ _ _
  repeat (any_goals (first | assumption | with_reducible refine wpAny_loadPart_at hC ?_ | wp_step))
  refine ⟨rfl, ?_⟩
  refine codeAny_call_builtin_at (Code.quiet_builtin _ (by decide +kernel)) entry_typeCall (wpAny_check_type_call_sub hC ?_)
  clear f1 f2 hT
  repeat (first | with_reducible refine wpAny_loadPart_at hC ?_ | with_reducible refine wpAny_madeBy_exc hC ?_ | wp_step)
  refine codeAny_call_builtin_code (Code.quiet_builtin _ F.quiet) (xcheck_new hC ?_)
  refine xnew hC ?_ hrest
  show wpAny _ _ _ _ _ (⟨(h.push (tupObj rest)).push (excObj C h.objs.size none .none), g, d, t, os⟩ : Shared)
  have k : ∀ b o, h.get? b = some o → ((h.push (tupObj rest)).push (excObj C h.objs.size none .none)).get? b = some o := fun b o e => Heap.get?_push_of_some _ (Heap.get?_push_of_some _ e)
  have hC₁ := k _ _ hC
  have hget : ((h.push (tupObj rest)).push (excObj C h.objs.size none .none)).get? (h.objs.size + 1) = some (excObj C h.objs.size none .none) := by heap_get
  have hcC : (Value.ref C :: excTail).contains (.ref C) = true := by simp
  unfold isInstance
  repeat (first | (with_reducible refine wpAny_loadPart_at hget ?_; show wpAny _ _ (isSubtype (.ref C) _) _ _ _) | (with_reducible refine wpAny_isSubtype_exc hC₁ ?_; rw [hcC]) | wp_step)
  show wpAny _ _ (typeLookup (.ref C) _) _ _ _
  refine (hi.keeps k) _ _ _ _ (fun _ _ e => e) ?_
  refine wpAny_holding (wpAny_bind ((hb (.ref (h.objs.size + 1))).keeps k _ _ _ _ (fun _ _ e => e) ?_))
  refine wpAny_bind (wpAny_mono hq (fun r s' hr => ?_) fun _ _ x => x)
  obtain ⟨rfl, hQ⟩ := hr
  wp_walk
  exact hQ
end
/-- an own exception class, its tail apart -/
noncomputable def xcInB (K : Frag) (C : Addr) (bm0 : List Value) : Prop := ∃ nm q N bs hdct sn sub ab col dd k0 k1 k2 k3 k5, K.lookup C = some (excClassObj nm q C N bs bm0 hdct sn sub ab col dd k0 k1 k2 k3 k5 "Exception.__new__")
theorem xc_ofB {K : Frag} {h : Heap} {C : Addr} {bm0 : List Value} (X : K.In h) (q : xcInB K C bm0) : ∃ nm q N bs hdct sn sub ab col dd k0 k1 k2 k3 k5, h.get? C = some (excClassObj nm q C N bs bm0 hdct sn sub ab col dd k0 k1 k2 k3 k5 "Exception.__new__") := by
  obtain ⟨nm, q, N, bs, hdct, sn, sub, ab, col, dd, k0, k1, k2, k3, k5, ho⟩ := q
  exact ⟨nm, q, N, bs, hdct, sn, sub, ab, col, dd, k0, k1, k2, k3, k5, X _ _ ho⟩
/-- an own exception class of the written part -/
noncomputable def xcIn (K : Frag) (C : Addr) : Prop := xcInB K C excTail
theorem xc_of {K : Frag} {h : Heap} {C : Addr} (X : K.In h) (q : xcIn K C) : ∃ nm q N bs hdct sn sub ab col dd k0 k1 k2 k3 k5, h.get? C = some (excClassObj nm q C N bs excTail hdct sn sub ab col dd k0 k1 k2 k3 k5 "Exception.__new__") := xc_ofB X q
section
open PySem.Builtin PySem.Builtin.ObjectAttr
variable {prog : Program} {w : World} {A : Around} {K : Frag} {C x L : Addr} {s : Shared} {h₀ : Heap} {m : Str → Option Value} {news : Led} {R : Result → Shared → Prop} {E : Value → Shared → Prop} {cd : ClassData} {ox : Obj} {od : Option Obj} {name : Str} {tk : Tok} {v : Value}
theorem xmro_in (X : K.In s.heap) (hc : clsIn K C = some cd) (hm : cd.mro = .ref C :: excTail) {b : Value} (hb : (Value.ref C :: excTail).contains b = true) : Looks (model prog w) s.heap (isSubtype (.ref C) b) true :=
  looks_mroIn X (by unfold mroIn; rw [hc, Option.bind_some, hm, if_neg (by simp), hb])
theorem xsa_open (X : K.In s.heap) (I : InstAt s.heap x ox C od) (hc : clsIn K C = some cd) (hm : cd.mro = .ref C :: excTail) (ht : takerIn K C name = some none)
    (h : ∀ b, wpAny (model prog w) A.in1 (storeInOwnDict (.ref x) (.ref C) (.str name tk) name v b)
      (fun fin s' => match fin with | .done f => R (.ok f) s' | .again c' => c'.quiet = true ∧ codeAny (model prog w) A c' R s') (fun e s' => R (.error e) s') s) :
    codeAny (model prog w) A (.call (.builtin "object.__setattr__") ⟨[.ref x, .str name tk, v], []⟩) R s := by
  have SF := PySem.F.store_Exception
  have sub : Looks (model prog w) s.heap (isInstance (.ref x) (.type "object")) true := I.type.andThen (xmro_in X hc hm (by simp))
  refine codeAny_call_builtin SF.slot.plain SF.entry (@check_slot (model prog w) _ _ s "object.__setattr__" "object" "__setattr__" (.ref x) [.str name tk, v] [] _ SF.kind SF.split sub (SF.args (.ref x) (.str name tk) v) ?_)
  obtain ⟨attr, ha, hr⟩ := Option.bind_eq_some_iff.mp ht
  have hmr : Looks (model prog w) s.heap (mroOf (.ref C)) cd.mro := (looks_clsIn X hc).andThen .now
  have L3 : Looks (model prog w) s.heap (storeTaker? attr) none := by
    cases attr with
    | none => exact .now
    | some a =>
      obtain ⟨b, hb, hb'⟩ := Option.map_eq_some_iff.mp hr
      refine (looks_takesIn X hb).andThen ?_
      cases b with
      | true => simp at hb'
      | false => exact .now
  rw [osa_eq, refuse_eq]
  refine wpAny_bind (wpAny_bind (I.type.here (wpAny_bind (hmr.here ?_))))
  rw [hm, refuseLoop_ref, refuseLoop_ref, SF.passes]
  refine wpAny_pure (wpAny_bind (I.type.here (wpAny_bind ((looks_findIn X ha).here (wpAny_bind (L3.here ?_))))))
  exact h _
/-- a name stored in a dict of the ledger -/
theorem xstore {dx : Addr} {es : List DictEntry} {n : Nat} {pre post : Led} {Q : Fin → Shared → Prop} (F : Fr h₀ L s.heap m) (N : News h₀ L s.heap (pre ++ (dx, dictOf es n) :: post)) (h1 : ∀ p ∈ pre, p.1 ≠ dx) (h2 : ∀ p ∈ post, p.1 ≠ dx) (hl : (getL name es).isSome = true)
    (hz : (putL name (PyData.keyHash w.params name) (.str name s.toks) v es).length ≤ 1000)
    (h : ∀ h', Fr h₀ L h' m → News h₀ L h' (pre ++ (dx, dictOf (putL name (PyData.keyHash w.params name) (.str name s.toks) v es) (putN name es n)) :: post) → Q (.done (.ret .none)) { s with heap := h', toks := s.toks + 1 }) :
    wpAny (model prog w) A (storeInDict dx (.str name tk) name v) Q E s := by
  obtain ⟨U1, U2⟩ := news_upd (f := Obj.putName name (PyData.keyHash w.params name) (.str name s.toks) v) F N h1 h2 (putName_dict _ _ _ _ _ _) rfl
  have D := (N (dx, dictOf es n) (by simp)).1
  have D' := (U2 (dx, _) (by simp; exact .inr (.inl rfl))).1
  unfold storeInDict newKeyGuard
  refine wpAny_bind (wpAny_pure (wpAny_bind ?_))
  unfold nsSet
  refine wpAny_bind (wpAny_bind (wpAny_askSetting (wpAny_pure (wpAny_bind (wpAny_mkText (wpAny_bind (wpAny_loadPart D ?_)))))))
  dsimp only
  have c : (!es.toArray.any (·.key.isStr name) && es.toArray.any (·.refKey)) = false := by
    rw [← Array.any_toList, ← Array.any_toList]
    unfold getL at hl
    split at hl
    · rename_i en he
      rw [List.any_eq_true.mpr ⟨en, List.mem_of_find?_eq_some he, List.find?_some he⟩]; rfl
    · split at hl
      · cases hl
      · rename_i z; rw [Bool.not_eq_true] at z; rw [z, Bool.and_false]
  rw [aRefKeyMayBeTheName_at, c]
  refine wpAny_updatePart D ?_
  refine wpAny_bind (wpAny_lookBehind D' (pastItsLine_dict (by rw [List.size_toArray, sizeLine_eq]; omega)) ?_)
  exact wpAny_pure (h _ U1 U2)
noncomputable def xdIn (K : Frag) (C : Addr) : Bool := (clsIn K C).any fun cd => cd.mro == .ref C :: excTail && cd.hasDict
theorem xd_of {K : Frag} {C : Addr} (q : xdIn K C = true) : ∃ cd, clsIn K C = some cd ∧ cd.mro = .ref C :: excTail ∧ cd.hasDict = true := by
  obtain ⟨cd, hc, h⟩ := any_some q
  simp only [Bool.and_eq_true, beq_iff_eq] at h
  exact ⟨cd, hc, h.1, h.2⟩
/-- an attribute of an exception that has its dict -/
theorem xset_dict {t dx : Addr} {tb : Value} {es es' : List DictEntry} {n n' : Nat} {pre post : Led} {Q : Unit → Shared → Prop} (F : Fr h₀ L s.heap m) (X₀ : K.In h₀) (hx : s.heap.get? x = some (excObj C t (some dx) tb)) (N : News h₀ L s.heap (pre ++ (dx, dictOf es n) :: post))
    (hq : xdIn K C = true) (ht : takerIn K C name = some none) (hs : findIn K (.ref C) "__setattr__" = some (some (.builtin "object.__setattr__")))
    (h1 : ∀ p ∈ pre, p.1 ≠ dx) (h2 : ∀ p ∈ post, p.1 ≠ dx) (hl : (getL name es).isSome = true) (e : (putL name (PyData.keyHash w.params name) (.str name (s.toks + 1)) v es, putN name es n) = (es', n')) (hz : es'.length ≤ 1000)
    (h : ∀ h', Fr h₀ L h' m → News h₀ L h' (pre ++ (dx, dictOf es' n') :: post) → Q () { s with heap := h', toks := s.toks + 2 }) :
    wpAny (model prog w) A (setAttr (.ref x) name v) Q E s := by
  obtain ⟨cd, hc, hm, hd⟩ := xd_of hq
  obtain ⟨rfl, rfl⟩ := Prod.mk.inj e
  have X := X₀.keeps F.keep
  have I : InstAt s.heap x (excObj C t (some dx) tb) C (some (dictOf es n)) := ⟨hx, rfl, rfl, (N (dx, dictOf es n) (by simp)).1⟩
  refine set_plain X I hs (xsa_open (s := { s with toks := s.toks + 1 }) X I hc hm ht fun b => ?_)
  unfold storeInOwnDict ownDictForStores instanceDict
  refine wpAny_bind (wpAny_pure (wpAny_bind (wpAny_bind (wpAny_loadPart hx ?_))))
  show wpAny _ _ (classData C >>= _) _ _ _
  refine wpAny_bind (looks_clsIn X hc _ _ _ _ (fun _ _ e => e) ?_)
  rw [hd]
  refine wpAny_pure (a := some dx) ?_
  exact xstore (s := { s with toks := s.toks + 1 }) F N h1 h2 hl hz fun h' F' N' => h h' F' N'
/-- the first attribute: the dict is made -/
theorem xset_new {t : Addr} {tb : Value} {Q : Unit → Shared → Prop} (F : Fr h₀ L s.heap m) (X₀ : K.In h₀) (N : News h₀ L s.heap ((x, excObj C t none tb) :: news)) (hne : ∀ p ∈ news, p.1 ≠ x)
    (hq : xdIn K C = true) (ht : takerIn K C name = some none) (hs : findIn K (.ref C) "__setattr__" = some (some (.builtin "object.__setattr__")))
    (h : ∀ d h', Fr h₀ L h' m → News h₀ L h' ((x, excObj C t (some d) tb) :: (d, dictOf [⟨PyData.keyHash w.params name, .str name (s.toks + 1), v⟩] 1) :: news) → x < d → (∀ p ∈ news, p.1 < d) → Q () { s with heap := h', toks := s.toks + 2 }) :
    wpAny (model prog w) A (setAttr (.ref x) name v) Q E s := by
  obtain ⟨cd, hc, hm, hd⟩ := xd_of hq
  have X := X₀.keeps F.keep
  have hx := (N _ (.head _)).1
  have I : InstAt s.heap x (excObj C t none tb) C none := ⟨hx, rfl, rfl, trivial⟩
  refine set_plain X I hs (xsa_open (s := { s with toks := s.toks + 1 }) X I hc hm ht fun b => ?_)
  unfold storeInOwnDict ownDictForStores instanceDict
  refine wpAny_bind (wpAny_pure (wpAny_bind (wpAny_bind (wpAny_loadPart hx ?_))))
  show wpAny _ _ (classData C >>= _) _ _ _
  refine wpAny_bind (looks_clsIn X hc _ _ _ _ (fun _ _ e => e) ?_)
  rw [hd]
  show wpAny _ _ (alloc _ >>= _) _ _ _
  refine wpAny_bind (wpAny_alloc ?_)
  have N1 : News h₀ L (s.heap.push emptyDict) ([(s.heap.objs.size, emptyDict)] ++ (x, excObj C t none tb) :: news) := N.push F emptyDict
  have lt : ∀ p ∈ (x, excObj C t none tb) :: news, p.1 < s.heap.objs.size := fun p hp => Heap.lt_size (N p hp).1
  obtain ⟨F2, N2⟩ := news_upd (f := fun o => { o with dict := some s.heap.objs.size }) (o' := excObj C t (some s.heap.objs.size) tb) (F.push emptyDict) N1 (fun p hp => by rw [List.mem_singleton.mp hp]; exact Nat.ne_of_gt (lt _ (.head _))) hne rfl rfl
  refine wpAny_bind (wpAny_update (N1 _ (.tail _ (.head _))).1 ?_)
  unfold dictMade
  refine wpAny_pure ?_
  refine xstore (s := { s with heap := _, toks := s.toks + 1 }) (pre := []) (es := []) (n := 0) F2 N2 (fun _ h => nomatch h) (fun p hp => ?_) rfl (by simp [putL]) fun h' F' N' => h _ h' F' (fun q hq => ?_) (lt _ (.head _)) fun p hp => lt p (.tail _ hp)
  · rcases List.mem_cons.mp hp with rfl | hp
    · exact Nat.ne_of_lt (lt (x, excObj C t none tb) (.head _))
    · exact Nat.ne_of_lt (lt _ (.tail _ hp))
  · refine N' q ?_
    rcases List.mem_cons.mp hq with rfl | hq
    · exact .tail _ (.head _)
    · rcases List.mem_cons.mp hq with rfl | hq
      · exact .head _
      · exact .tail _ (.tail _ hq)
/-- the root's constructor -/
theorem xinit {t : Addr} {a : Value} {Q : Value → Shared → Prop} (F : Fr h₀ L s.heap m) (X₀ : K.In h₀) (N : News h₀ L s.heap ((x, excObj C t none .none) :: news)) (hne : ∀ p ∈ news, p.1 ≠ x)
    (hq : xcIn K C)
    (h : ∀ t' h', Fr h₀ L h' m → News h₀ L h' ((x, excObj C t' none .none) :: news) → Q .none { s with heap := h' }) :
    wpAny (model prog w) A (call (.builtin "Exception.__init__") [.ref x, a]) Q E s := by
  have X := X₀.keeps F.keep
  have hx := (N _ (.head _)).1
  have EF := PySem.F.excCall_Exception
  obtain ⟨_, _, _, _, _, _, _, _, _, _, _, _, _, _, _, hC⟩ := xc_of X hq
  have N1 : News h₀ L (s.heap.push (tupObj [a])) ([(s.heap.objs.size, tupObj [a])] ++ (x, excObj C t none .none) :: news) := N.push F _
  have lt : ∀ p ∈ (x, excObj C t none .none) :: news, p.1 < s.heap.objs.size := fun p hp => Heap.lt_size (N p hp).1
  obtain ⟨F2, N2⟩ := news_upd (f := Obj.mapFields (·.setIfInBounds 0 (.ref s.heap.objs.size))) (o' := excObj C s.heap.objs.size none .none) (F.push _) N1 (fun p hp => by rw [List.mem_singleton.mp hp]; exact Nat.ne_of_gt (lt _ (.head _))) hne rfl rfl
  have hx1 := (N1 _ (.tail _ (.head _))).1
  refine wpAny_call (codeAny_call_builtin EF.init.plain EF.initEntry (xcheck_init hC hx rfl ?_))
  unfold Builtin.«BaseException.__init__»
  show wpAny _ _ (newTuple [a] >>= fun v => PySem.Builtin.BaseException.bexcPut (.ref x) 0 v >>= fun _ => _) _ _ _
  refine wpAny_bind (wpAny_newTuple (wpAny_bind ?_) (by rw [sizeLine_eq]; simp))
  unfold PySem.Builtin.BaseException.bexcPut
  refine wpAny_bind (wpAny_field hx1 rfl rfl (wpAny_bind (wpAny_setField hx1 rfl (by simp) ?_)))
  refine wpAny_letGo ?_
  exact wpAny_pure (h _ _ F2 fun q hq => N2 q (.tail _ hq))
end
-- part R2
/-- as Spec, whatever exception is being handled and whatever stands between -/
noncomputable def SpecH (w : World) (f : Addr) (args : List Value) (foot : Led) (D U : Nat) (P : Value → Led → Prop) : Prop :=
  ∀ (mean : ExcName → Option Value) (mg mb : Str → Option Value) (A : Around) (cn : Str) (cs : Scope) (a : Addr) (ccd : Value) (cl : List (Str × Addr)) (outer : List Env) (A₀ : Around) (base h₀ : Heap) (L : Addr) (m : Str → Option Value) (s : Shared) (Q E : Value → Shared → Prop),
    A.frames = some (envX cn cs L a ccd cl :: outer) → Below A₀ base outer h₀ → Fr h₀ L s.heap m → (KF w.params).In h₀ → News h₀ L s.heap foot → TopE mean mg mb h₀ → cs.kind = .function → A.depth + D < recursionLimit → A.units + U < cLine →
    (∀ v foot' h' tk', P v foot' → Fr h₀ L h' m → News h₀ L h' foot' → Keeps foot s.heap h' → Fresh foot s.heap foot' → Q v { s with heap := h', toks := tk' }) →
    wpAny (model pE w) A (call (.ref f) args) Q E s
theorem SpecH.tk {w : World} {f : Addr} {args : List Value} {foot news rest : Led} {D U : Nat} {P : Value → Led → Prop} {mean : ExcName → Option Value} {mg mb : Str → Option Value} {A : Around} {cn : Str} {cs : Scope} {a : Addr} {ccd : Value} {cl : List (Str × Addr)} {outer : List Env} {A₀ : Around} {base h₀ : Heap} {L : Addr} {m : Str → Option Value} {s : Shared} {Q E : Value → Shared → Prop}
    (S : SpecH w f args foot D U P) (hA : A.frames = some (envX cn cs L a ccd cl :: outer)) (B : Below A₀ base outer h₀) (F : Fr h₀ L s.heap m) (X : (KF w.params).In h₀) (N : News h₀ L s.heap news) (tk : Take foot news rest) (ap : Apart rest foot) (T : TopE mean mg mb h₀) (hk : cs.kind = .function) (hd : A.depth + D < recursionLimit) (hu : A.units + U < cLine)
    (ret : ∀ v l h' tk', P v l → Fr h₀ L h' m → News h₀ L h' (l ++ rest) → AllApart l rest → Q v { s with heap := h', toks := tk' }) :
    wpAny (model pE w) A (call (.ref f) args) Q E s := by
  refine S mean mg mb A cn cs a ccd cl outer A₀ base h₀ L m s Q E hA B F X (fun q hq => N q (tk.mem.1 q hq)) T hk hd hu fun v l h' tk' hp F' N' K Z => ?_
  have hr : ∀ q ∈ rest, q ∈ news ∧ q.1 ∉ foot.map (·.1) := fun q hq => ⟨tk.mem.2 q hq, fun h => by obtain ⟨r, hr, e⟩ := List.mem_map.mp h; exact ap q hq r hr e.symm⟩
  refine ret v l h' tk' hp F' (fun q hq => ?_) (allApart_of fun q hq r hrr e => ?_)
  · rcases List.mem_append.mp hq with hq | hq
    · exact N' q hq
    · obtain ⟨h1, h2⟩ := hr q hq
      exact ⟨K q.1 q.2 (N q h1).1 h2, (N q h1).2⟩
  · obtain ⟨h1, h2⟩ := hr r hrr
    rcases Z q hq with z | z
    · exact h2 (e ▸ z)
    · rw [e, (N r h1).1] at z
      cases z
/-- under the ordinary surroundings -/
theorem SpecH.spec {w : World} {f : Addr} {args : List Value} {foot : Led} {D U : Nat} {P : Value → Led → Prop} (S : SpecH w f args foot D U P) : Spec w f args foot D U P :=
  fun mean mg mb dp un gd cn cs a ccd cl outer A₀ base h₀ L m s Q E B F X N T hk hd hu ret => S mean mg mb _ cn cs a ccd cl outer A₀ base h₀ L m s Q E rfl B F X N T hk hd hu ret
theorem rowsR2_1 : True := by
  k_with "m getMethod type:Exception" => (first | (k_here; k_dflt (refine' method_type (v := Value.builtin "Exception.__init__") ?k1 ?k2 ?k3 ?k4 ?k5 ?k6 ?_; (case k1 => k_asm); (case k2 => k_asm); (case k3 => kernel_rfl); (case k4 => decide +kernel); (case k5 => exact rfl); (case k6 => exact rfl))) | fail "row")
  k_with "m call builtin:Exception.__init__" => (first | (k_here; k_dflt (refine' xinit ?k1 ?k2 ?k3 ?k4 ?k5 ?_; (case k1 => k_asm); (case k2 => k_asm); (case k3 => k_asm); (case k4 => first | exact (fun _ h => nomatch h) | fail); (case k5 => exact ⟨_, _, _, _, _, _, _, _, _, _, _, _, _, _, _, by k_is⟩)); intro t' h' F' N'; (try dsimp only); (try k_sweep)) | fail "row")
  k_with "m setAttr ref" => (first | (k_here; k_dflt (refine' xset_new ?k1 ?k2 ?k3 ?k4 ?k5 ?k8 ?k9 ?_; (case k1 => k_asm); (case k2 => k_asm); (case k3 => k_asm); (case k4 => first | exact (fun _ h => nomatch h) | fail); (case k5 => kernel_rfl); (case k8 => k_is); (case k9 => k_is)); intro d' h' F' N' l1 l2; (try dsimp only); (try k_sweep)) | fail "row")
  trivial
set_option maxHeartbeats 2000000 in
theorem perl_init {w : World} {e C t : Addr} {x : Str} {tx : Nat} (hC : C = 344 ∨ C = 325) :
    SpecH w 302 [.ref e, .str x tx] [(e, excObj C t none .none)] 5 60 (fun v l => v = .none ∧ ∃ t' d k, l = [(e, excObj C t' (some d) .none), (d, dictOf [En w "text" k (.str x tx)] 1)]) := by
  intro mean mg mb A cn cs a ccd cl outer A₀ base h₀ L m s Q E hA B F X N T hk hd' hu ret
  obtain ⟨hdl, dp, fr, gd, un⟩ := A
  dsimp only at hA hd' hu
  subst hA
  ktr_unf
  rcases hC with rfl | rfl
  all_goals k_steps
  all_goals k_dflt (refine' spec_fin ret (by assumption) (by assumption) (by assumption) (by assumption) (by assumption) ⟨rfl, _, _, _, rfl⟩ ?_; kt_eqs)
theorem rowsR2_2 : True := by
  k_with "m call ref" => (first | (k_here; (with_reducible show wpAny _ _ (call (Value.ref 302) _) _ _ _); k_dflt (refine' SpecH.tk (perl_init ?hC) ?kA ?kB ?kF ?kX ?kN ?kS ?kR ?kT ?kK ?kD ?kU ?_; (case kA => exact rfl); (case hC => first | exact .inl rfl | exact .inr rfl); kwd_inv); (rintro v' l' h' tk' ⟨e1', t', d', k', e2'⟩ F' N' ne'); subst e1'; subst e2'; (simp only [List.cons_append, List.nil_append] at N'); (simp only [AllApart, AllNe, and_true] at ne'); (try dsimp only); (try k_sweep)) | fail "row")
  k_with "m setAttr ref" => (first | (k_here; k_dflt (refine' xset_dict (pre := [_]) (post := []) ?k1 ?k2 ?k3 ?k4 ?k5 ?k8 ?k9 ?k10 ?k11 ?k12 ?kp ?k13 ?_; (case k1 => k_asm); (case k2 => k_asm); (case k4 => k_asm); (case k3 => exact (‹News _ _ _ _› _ (.head _)).1); (case k5 => kernel_rfl); (case k8 => k_is); (case k9 => k_is); (case k10 => exact List.forall_mem_cons.mpr ⟨led_ne (by assumption) (.head _) (.tail _ (.head _)) (by simp), (fun _ h => nomatch h)⟩); (case k11 => exact (fun _ h => nomatch h)); (case k12 => k_get); (case kp => k_put); (case k13 => exact Nat.le_of_ble_eq_true rfl)); intro h' F' N'; (try dsimp only); (try k_sweep)) | fail "row")
  trivial
set_option maxHeartbeats 2000000 in
theorem bad_init {w : World} {e t : Addr} {x : Str} {k : Int} {tx u : Nat} :
    SpecH w 341 [.ref e, .str x tx, .int k u] [(e, excObj 344 t none .none)] 8 100 (fun v l => v = .none ∧ ∃ t' d k1 k2, l = [(e, excObj 344 t' (some d) .none), (d, dictOf [En w "text" k1 (.str x tx), En w "at" k2 (.int k u)] 2)]) := by
  intro mean mg mb A cn cs a ccd cl outer A₀ base h₀ L m s Q E hA B F X N T hk hd' hu ret
  obtain ⟨hdl, dp, fr, gd, un⟩ := A
  dsimp only at hA hd' hu
  subst hA
  ktr_unf
  k_steps
  k_dflt (refine' spec_fin ret (by assumption) (by assumption) (by assumption) (by assumption) (by assumption) ⟨rfl, _, _, _, _, rfl⟩ ?_; kt_eqs)
set_option maxHeartbeats 2000000 in
theorem die_init {w : World} {e t : Addr} {v : Value} :
    SpecH w 322 [.ref e, v] [(e, excObj 325 t none .none)] 8 100 (fun r l => r = .none ∧ ∃ t' d k1 k2 k3, l = [(e, excObj 325 t' (some d) .none), (d, dictOf [En w "text" k1 (.str (Str.ofString "died") k3), En w "value" k2 v] 2)]) := by
  intro mean mg mb A cn cs a ccd cl outer A₀ base h₀ L m s Q E hA B F X N T hk hd' hu ret
  obtain ⟨hdl, dp, fr, gd, un⟩ := A
  dsimp only at hA hd' hu
  subst hA
  ktr_unf
  k_steps
  k_dflt (refine' spec_fin ret (by assumption) (by assumption) (by assumption) (by assumption) (by assumption) ⟨rfl, _, _, _, _, _, rfl⟩ ?_; kt_eqs)
/-- an exception made: the class called -/
theorem exc_made {w : World} {C fI : Addr} {rest : List Value} {D U : Nat} {P : Addr → Led → Prop} (S : ∀ e t, SpecH w fI (.ref e :: rest) [(e, excObj C t none .none)] D U (fun v l => v = .none ∧ P e l))
    (hc : xcIn (KF w.params) C) (hi : findIn (KF w.params) (.ref C) "__init__" = some (some (.ref fI))) (hf : typeIn (KF w.params) (.ref fI) = some (.type "function")) (hz : rest.length ≤ sizeLine) :
    SpecH w C rest [] (D + 2) (U + 2) (fun v l => ∃ e, v = .ref e ∧ P e l) := by
  intro mean mg mb A cn cs a ccd cl outer A₀ base h₀ L m s Q E hA B F X N T hk hd hu ret
  obtain ⟨hh, g, dr, t, os⟩ := s
  dsimp only at F N ret
  have X' := X.keeps F.keep
  obtain ⟨_, _, _, _, _, _, _, _, _, _, _, _, _, _, _, hC⟩ := xc_of X' hc
  refine xcall (fI := fI) hC (looks_findIn X' hi) (fun self => bind_fn X' self hf) ?_ hz
  have k : ∀ b o, hh.get? b = some o → ((hh.push (tupObj rest)).push (excObj C hh.objs.size none .none)).get? b = some o := fun b o e => Heap.get?_push_of_some _ (Heap.get?_push_of_some _ e)
  have N1 : News h₀ L ((hh.push (tupObj rest)).push (excObj C hh.objs.size none .none)) [(hh.objs.size + 1, excObj C hh.objs.size none .none)] := by
    have := (N.push F (tupObj rest)).push (F.push _) (excObj C hh.objs.size none .none)
    rw [Heap.size_push] at this
    exact fun q hq => this q (by rw [List.mem_singleton.mp hq]; exact .head _)
  refine S _ _ mean mg mb (A.under (.builtin "type.__call__" ⟨.ref C :: rest, []⟩)) cn cs a ccd cl outer A₀ base h₀ L m _ _ E hA B ((F.push _).push _) X N1 T hk (by rw [depth_under_make]; omega) (by rw [units_under_make]; omega) ?_
  rintro v l h' tk' ⟨rfl, hP⟩ F' N' K Z
  have none_of : ∀ b, ((hh.push (tupObj rest)).push (excObj C hh.objs.size none .none)).get? b = none → hh.get? b = none := fun b e => by
    cases q : hh.get? b with
    | none => rfl
    | some o => rw [k _ _ q] at e; cases e
  refine ⟨rfl, ret _ _ h' tk' ⟨_, rfl, hP⟩ F' N' (fun b o e _ => K b o (k _ _ e) fun hm => ?_) fun q hq => .inr ?_⟩
  · rw [List.map_cons, List.map_nil, List.mem_singleton] at hm
    subst hm
    exact absurd (Heap.lt_size e) (Nat.not_lt.mpr (Nat.le_succ _))
  · rcases Z q hq with z | z
    · rw [List.map_cons, List.map_nil, List.mem_singleton] at z
      rw [z]
      exact Heap.get?_none_of_le (Nat.le_succ _)
    · exact none_of _ z
/-- a refused pattern's exception, made -/
theorem bad_made {w : World} {x : Str} {k : Int} {tx u : Nat} :
    SpecH w 344 [.str x tx, .int k u] [] 10 102 (fun v l => ∃ e, v = .ref e ∧ ∃ t d k1 k2, l = [(e, excObj 344 t (some d) .none), (d, dictOf [En w "text" k1 (.str x tx), En w "at" k2 (.int k u)] 2)]) :=
  exc_made (fun _ _ => bad_init) (by exact ⟨_, _, _, _, _, _, _, _, _, _, _, _, _, _, _, by k_is⟩) (by kernel_rfl) (by kernel_rfl) (by rw [sizeLine_eq]; simp)
theorem die_made {w : World} {v : Value} :
    SpecH w 325 [v] [] 10 102 (fun r l => ∃ e, r = .ref e ∧ ∃ t d k1 k2 k3, l = [(e, excObj 325 t (some d) .none), (d, dictOf [En w "text" k1 (.str (Str.ofString "died") k3), En w "value" k2 v] 2)]) :=
  exc_made (fun _ _ => die_init) (by exact ⟨_, _, _, _, _, _, _, _, _, _, _, _, _, _, _, by k_is⟩) (by kernel_rfl) (by kernel_rfl) (by rw [sizeLine_eq]; simp)
-- part R3
noncomputable abbrev excObjC (C t : Addr) (dd : Option Addr) (tb cx : Value) : Obj := { cls := .ref C, dict := dd, data := .fields #[.ref t, tb, cx, .none, .bool false, .none] }
section
variable {M : Model} {A : Around} {E : Value → Shared → Prop} {s : Shared}
/-- the exception under way, its whole object known -/
noncomputable def TrD (h B : Heap) (e C t : Addr) (dd : Option Addr) (cx fl : Value) : Prop :=
  ∃ T oT ts, h.get? e = some (excObjC C t dd (.ref T) cx) ∧ B.get? T = none ∧ T ≠ e ∧ h.get? T = some oT ∧ oT.data = .fields ts ∧ ts[3]? = some fl
noncomputable def FlyD (B : Heap) (l : List Env) (e C t : Addr) (dd : Option Addr) (cx fl : Value) (h : Heap) : Prop :=
  B.StaysIn h ∧ B.get? e = none ∧ h.FunFrames B l ∧ TrD h B e C t dd cx fl
theorem FlyD.there {B h : Heap} {l : List Env} {e C t : Addr} {dd : Option Addr} {cx fl : Value} (x : FlyD B l e C t dd cx fl h) : ∃ tb, h.get? e = some (excObjC C t dd tb cx) := let ⟨_, _, _, _, _, _, he, _⟩ := x; ⟨_, he⟩
theorem d_entry {B : Heap} {env : Env} {outer : List Env} {L e C t : Addr} {dd : Option Addr} {tb cx head : Value} {hadNext : Bool} {Q : Unit → Shared → Prop}
    (hfr : A.frames = some (env :: outer)) (hl : s.heap.FunFrames B (env :: outer)) (hf : env.frame = some L) (he : s.heap.get? e = some (excObjC C t dd tb cx)) (hkb : B.StaysIn s.heap) (hen : B.get? e = none)
    (h : ∀ h', FlyD B (env :: outer) e C t dd cx (rawInt L) h' → s.heap.UpToSlots h' → Q () { s with heap := h' }) :
    wpAny M A (do let a ← frameOf env; let pl ← entryPlaceOf L hadNext; let b ← EntryCells.newEntry head a .none (rawInt L) .none pl; setField (.ref e) 1 b) Q E s := by
  have hene : e ∉ (env :: outer).filterMap (·.frame) := fun hm => by
    obtain ⟨_, o, ho, hnf⟩ := hl.mem hm
    rw [he] at ho; injection ho with ho; subst ho; exact hnf _ rfl
  refine wpAny_bind (wpAny_frameOf_fun hfr hl hf fun h₁ hs₁ => wpAny_bind (wpAny_entryPlaceOf fun pl hpl => ?_))
  unfold EntryCells.newEntry newFields
  refine wpAny_bind (wpAny_newObj_type ?_ (hpl.sizeOk5 _ _ _ _ _))
  have he₁ : h₁.get? e = some (excObjC C t dd tb cx) := (hs₁.2.1 e hene).trans he
  have kb₁ : B.StaysIn h₁ := fun b o hbo => (hs₁.2.1 b fun hm => by rw [(hl.mem hm).1] at hbo; cases hbo).trans (hkb b o hbo)
  generalize hoT : ({ cls := .type "traceback", dict := none, data := .fields ([head, .ref L, .none, rawInt L, .none] ++ (if pl.isEmpty then List.replicate 6 Value.none else pl)).toArray } : Obj) = oT
  have he₂ := Heap.get?_push_of_some (h := h₁) oT he₁
  have hTe : h₁.objs.size ≠ e := Nat.ne_of_gt (Heap.lt_size he₁)
  have keep : ∀ b o, b ≠ e → h₁.get? b = some o → ((h₁.push oT).update e (Obj.mapFields (·.setIfInBounds 1 (Value.ref h₁.objs.size)))).get? b = some o := fun b o hbe hb => by
      rw [Heap.get?_update_other _ _ (Ne.symm hbe)]
      exact Heap.get?_push_of_some _ hb
  have noRecord : ∀ b o, s.heap.get? b = some o → (∀ vs, o.data ≠ .fields vs) → b ≠ e := fun b o hb hnf q => by
      rw [q, he] at hb; injection hb with hb; subst hb; exact hnf _ rfl
  refine wpAny_setField he₂ rfl (by simp) (h _ ?_ ?_)
  · refine ⟨fun b o hbo => keep b o (fun q => by rw [q, hen] at hbo; cases hbo) (kb₁ b o hbo), hen, hl.of_keeps fun b o hb hnf => ?_, ?_⟩
    · obtain ⟨sl, hs⟩ := hs₁.2.2 b o hb
      exact ⟨_, keep b _ (noRecord b o hb hnf) hs, rfl⟩
    · refine ⟨h₁.objs.size, oT, ([head, .ref L, .none, rawInt L, .none] ++ (if pl.isEmpty then List.replicate 6 Value.none else pl)).toArray, ?_, kb₁.fresh, hTe, ?_, by subst hoT; rfl, ?_⟩
      · exact Heap.get?_update_self _ he₂ rfl
      · rw [Heap.get?_update_other _ _ (Ne.symm hTe)]
        exact Heap.get?_push_size h₁ (by subst hoT; rfl)
      · rcases hpl with rfl | ⟨_, _, _, _, _, _, _, rfl⟩ <;> simp
  · intro b o hb hnf
    obtain ⟨sl, hs⟩ := hs₁.2.2 b o hb
    exact ⟨sl, keep b _ (noRecord b o hb hnf) hs⟩
theorem d_first {B : Heap} {env : Env} {outer : List Env} {L e C t : Addr} {dd : Option Addr} {cx : Value} {Q : Unit → Shared → Prop}
    (hfr : A.frames = some (env :: outer)) (hl : s.heap.FunFrames B (env :: outer)) (hf : env.frame = some L) (he : s.heap.get? e = some (excObjC C t dd .none cx)) (hkb : B.StaysIn s.heap) (hen : B.get? e = none)
    (h : ∀ h', FlyD B (env :: outer) e C t dd cx (rawInt L) h' → s.heap.UpToSlots h' → Q () { s with heap := h' }) : wpAny M A (noteFrame (.ref e) env) Q E s := by
  unfold noteFrame
  simp only [hf]
  refine wpAny_bind (wpAny_field (x := .none) he rfl rfl ?_)
  rw [if_neg (by decide)]
  exact d_entry hfr hl hf he hkb hen h
theorem d_next {B : Heap} {env : Env} {outer : List Env} {L e C t : Addr} {dd : Option Addr} {cx : Value} {Q : Unit → Shared → Prop}
    (hfr : A.frames = some (env :: outer)) (hf : env.frame = some L) (x : FlyD B (env :: outer) e C t dd cx .none s.heap)
    (h : ∀ h', FlyD B (env :: outer) e C t dd cx (rawInt L) h' → s.heap.UpToSlots h' → Q () { s with heap := h' }) : wpAny M A (noteFrame (.ref e) env) Q E s := by
  obtain ⟨hkb, hen, hl, T, oT, ts, he, hnT, hTe, hT, hdT, h3⟩ := x
  unfold noteFrame
  simp only [hf]
  refine wpAny_bind (wpAny_field (x := .ref T) he rfl rfl ?_)
  rw [if_pos (show (Value.ref T != Value.none) = true from by simp)]
  refine wpAny_bind (wpAny_field hT hdT h3 ?_)
  rw [if_neg (show ¬ ((Value.none == rawInt L) = true) from by simp [rawInt])]
  refine wpAny_bind (wpAny_setField hT hdT (Array.getElem?_eq_some_iff.mp h3).1 ?_)
  have other : ∀ b, b ≠ T → (s.heap.update T (Obj.mapFields (·.setIfInBounds 3 Value.none))).get? b = s.heap.get? b := fun b hb => Heap.get?_update_other _ _ (Ne.symm hb)
  have noRecord : ∀ b o, s.heap.get? b = some o → (∀ vs, o.data ≠ .fields vs) → b ≠ T := fun b o hb hnf q => by
    rw [q, hT] at hb; injection hb with hb; subst hb; exact hnf ts hdT
  refine d_entry (s := { s with heap := _ }) hfr (hl.of_keeps fun b o hb hnf => ⟨o, (other b (noRecord b o hb hnf)).trans hb, rfl⟩) hf ((other e (Ne.symm hTe)).trans he)
    (fun b o hbo => (other b fun q => by rw [q, hnT] at hbo; cases hbo).trans (hkb b o hbo)) hen fun h' y1 y2 => h h' y1 fun b o hb hnf => y2 b o ((other b (noRecord b o hb hnf)).trans hb) hnf
theorem d_again {B h : Heap} {env : Env} {l : List Env} {L e C t : Addr} {dd : Option Addr} {cx : Value} {Q : Unit → Shared → Prop} (hf : env.frame = some L) (x : FlyD B l e C t dd cx (rawInt L) s.heap) (h : Q () s) :
    wpAny M A (noteFrame (.ref e) env) Q E s := by
  obtain ⟨hkb, hen, hl, T, oT, ts, he, hnT, hTe, hT, hdT, h3⟩ := x
  unfold noteFrame
  simp only [hf]
  refine wpAny_bind (wpAny_field (x := .ref T) he rfl rfl ?_)
  rw [if_pos (show (Value.ref T != Value.none) = true from by simp)]
  refine wpAny_bind (wpAny_field hT hdT h3 ?_)
  rw [if_pos (show (rawInt L == rawInt L) = true from by simp)]
  exact wpAny_pure h
theorem d_flight {B : Heap} {l : List Env} {e C t : Addr} {dd : Option Addr} {cx fl : Value} {at_ : Option Addr} {Q : Unit → Shared → Prop} (x : FlyD B l e C t dd cx fl s.heap)
    (h : ∀ h', FlyD B l e C t dd cx (at_.elim Value.none fun f => rawInt f) h' → s.heap.UpToSlots h' → Q () { s with heap := h' }) : wpAny M A (setFlight (.ref e) at_) Q E s := by
  obtain ⟨hkb, hen, hl, T, oT, ts, he, hnT, hTe, hT, hdT, h3⟩ := x
  have hsz3 : 3 < ts.size := (Array.getElem?_eq_some_iff.mp h3).1
  have other : ∀ b, b ≠ T → (s.heap.update T (Obj.mapFields (·.setIfInBounds 3 (at_.elim Value.none fun f => rawInt f)))).get? b = s.heap.get? b :=
    fun b hb => Heap.get?_update_other _ _ (Ne.symm hb)
  have noRecord : ∀ b o, s.heap.get? b = some o → (∀ vs, o.data ≠ .fields vs) → b ≠ T := fun b o hb hnf q => by
    rw [q, hT] at hb; injection hb with hb; subst hb; exact hnf ts hdT
  unfold setFlight
  refine wpAny_bind (wpAny_field (x := .ref T) he rfl rfl ?_)
  rw [if_pos (show (Value.ref T != Value.none) = true from by simp)]
  refine wpAny_setField hT hdT hsz3 (h _ ⟨fun b o hbo => (other b fun q => by rw [q, hnT] at hbo; cases hbo).trans (hkb b o hbo), hen,
    hl.of_keeps fun b o hb hnf => ⟨o, (other b (noRecord b o hb hnf)).trans hb, rfl⟩, ?_⟩ fun b o hb hnf => ⟨o.slots, (other b (noRecord b o hb hnf)).trans hb⟩)
  exact ⟨T, _, _, (other e (Ne.symm hTe)).trans he, hnT, hTe, Heap.get?_update_self _ hT (Obj.isFreed_of_fields (Obj.data_mapFields hdT _)), Obj.data_mapFields hdT _, by simp [hsz3]⟩
theorem FlyD.pop {B h : Heap} {env : Env} {l : List Env} {e C t : Addr} {dd : Option Addr} {cx fl : Value} (x : FlyD B (env :: l) e C t dd cx fl h) : FlyD B l e C t dd cx fl h := let ⟨a, b, ⟨_, _, c⟩, d⟩ := x; ⟨a, b, c, d⟩
theorem d_leave_first {B : Heap} {env : Env} {outer : List Env} {L e C t : Addr} {dd : Option Addr} {cx : Value} {Q : Unit → Shared → Prop}
    (hfr : A.frames = some (env :: outer)) (hl : s.heap.FunFrames B (env :: outer)) (hf : env.frame = some L) (he : s.heap.get? e = some (excObjC C t dd .none cx)) (hkb : B.StaysIn s.heap) (hen : B.get? e = none)
    (h : ∀ h', FlyD B outer e C t dd cx .none h' → s.heap.UpToSlots h' → Q () { s with heap := h' }) : wpAny M A (leaving env (.ref e)) Q E s := by
  unfold leaving
  exact wpAny_bind (d_first hfr hl hf he hkb hen fun h₁ x₁ u₁ => d_flight (at_ := none) x₁ fun h₂ x₂ u₂ => h h₂ x₂.pop (u₁.trans u₂))
theorem d_leave_next {B : Heap} {env : Env} {outer : List Env} {L e C t : Addr} {dd : Option Addr} {cx : Value} {Q : Unit → Shared → Prop}
    (hfr : A.frames = some (env :: outer)) (hf : env.frame = some L) (x : FlyD B (env :: outer) e C t dd cx .none s.heap)
    (h : ∀ h', FlyD B outer e C t dd cx .none h' → s.heap.UpToSlots h' → Q () { s with heap := h' }) : wpAny M A (leaving env (.ref e)) Q E s := by
  unfold leaving
  exact wpAny_bind (d_next hfr hf x fun h₁ x₁ u₁ => d_flight (at_ := none) x₁ fun h₂ x₂ u₂ => h h₂ x₂.pop (u₁.trans u₂))
end
/-- the exception has come out of a def: what stood stands, up to the frames' slots -/
noncomputable def RaisedD (base G : Heap) (l : List Env) (e C t d : Addr) (dob : Obj) (cx : Value) (keep : Led) (h : Heap) : Prop :=
  (∃ B, base.StaysIn B ∧ (∀ b o, G.get? b = some o → b ∉ l.filterMap (·.frame) → B.get? b = some o) ∧ B.get? d = some dob ∧ G.get? d = none ∧ G.get? e = none ∧ (∀ q ∈ keep, B.get? q.1 = some q.2) ∧ FlyD B l e C t (some d) cx .none h) ∧ G.UpToSlots h
section
variable {M : Model} {A : Around} {E : Value → Shared → Prop} {s' : Shared} {base g G : Heap} {outer : List Env} {L a e C t d : Addr} {dob : Obj} {m : Str → Option Value} {name : Str} {scope : Scope} {cd : Value} {Q : Unit → Shared → Prop} {news keep : Led} {cx : Value}
theorem leave_rD (K : Below A base outer g) (F : Fr g L s'.heap m) (N : News g L s'.heap news) (he : (e, excObjC C t (some d) .none cx) ∈ news) (hd : (d, dob) ∈ news) (hdd : dob.cls ≠ .ref C)
    (hQ : ∀ h', RaisedD base g outer e C t d dob cx keep h' → Q () { s' with heap := h' }) (hkp : ∀ q ∈ keep, q ∈ news ∧ q.1 ≠ e) (hk : scope.kind = .function := by rfl) :
    wpAny M (A.deeper (envOf name scope L a cd)) (leaving (envOf name scope L a cd) (.ref e)) Q E s' := by
  have K' := K.push (name := name) (a := a) (cd := cd) F hk
  have hde : d ≠ e := fun q => by
    have h1 := (N _ hd).1
    have h2 := (N _ he).1
    dsimp only at h1 h2
    rw [q, h2] at h1
    injection h1 with h1
    exact hdd (congrArg Obj.cls h1).symm
  have nfr : ∀ b, g.get? b = none → b ≠ L → b ∉ (envOf name scope L a cd :: outer).filterMap (·.frame) := fun b hb hbL hm => by
    rcases kts_mem hm with z | z
    · exact hbL z
    · obtain ⟨_, o, ho, _⟩ := K.frames.mem z
      rw [hb] at ho; cases ho
  let as := e :: (envOf name scope L a cd :: outer).filterMap (·.frame)
  have hin : ∀ env ∈ (envOf name scope L a cd :: outer), ∀ b, env.frame = some b → b ∈ as := fun env he b hb => .tail _ (List.mem_filterMap.mpr ⟨env, he, hb⟩)
  have eg := (N _ he).2.2
  have st : base.StaysIn (hideAll s'.heap as) := fun b o q => hideAll_get _ (K'.stays b o q) fun hm => by
    rcases List.mem_cons.mp hm with z | z
    · rw [z, fresh_of_stays K.stays eg] at q; cases q
    · rw [(K'.frames.mem z).1] at q; cases q
  have sg : ∀ b o, g.get? b = some o → b ∉ outer.filterMap (·.frame) → (hideAll s'.heap as).get? b = some o := fun b o q nm => hideAll_get _ (F.keep b o q) fun hm => by
    rcases List.mem_cons.mp hm with z | z
    · rw [z, eg] at q; cases q
    · rcases kts_mem z with z | z
      · rw [z, kts_self F] at q
        cases q
      · exact nm z
  refine d_leave_first (B := hideAll s'.heap as) K'.stack (funFrames_hide K'.frames hin) rfl (N _ he).1 (fun b o q => of_hideAll _ q) (hideAll_none _ (.head _)) fun h' x u => hQ h' ⟨⟨_, st, sg, hideAll_get _ (N _ hd).1 fun hm => ?_, (N _ hd).2.2, eg, fun q hq => hideAll_get _ (N _ (hkp q hq).1).1 fun hm => ?_, x⟩, (Heap.UpToSlots.of_keeps F.keep).trans u⟩
  · rcases List.mem_cons.mp hm with z | z
    · exact hde z
    · exact nfr d (N _ hd).2.2 (N _ hd).2.1 z
  · rcases List.mem_cons.mp hm with z | z
    · exact (hkp q hq).2 z
    · exact nfr q.1 (N _ (hkp q hq).1).2.2 (N _ (hkp q hq).1).2.1 z
theorem leave_oD {env : Env} (K : Below A base outer g) (F : Fr g L G m) (R : RaisedD base G (env :: outer) e C t d dob cx keep s'.heap)
    (hQ : ∀ h', RaisedD base g outer e C t d dob cx keep h' → Q () { s' with heap := h' }) (hf : env.frame = some L := by rfl) :
    wpAny M (A.deeper env) (leaving env (.ref e)) Q E s' := by
  obtain ⟨⟨B, hB, hBG, hd, hdn, hen, hkp, hfl⟩, hu⟩ := R
  refine d_leave_next (Around.frames_deeper K.stack) hf hfl fun h' x u => hQ h' ⟨⟨B, hB, fun b o q nm => hBG b o (F.keep b o q) (fun hm => ?_), hd, kts_none F.keep hdn, kts_none F.keep hen, hkp, x⟩, (Heap.UpToSlots.of_keeps F.keep).trans (hu.trans u)⟩
  rw [List.filterMap_cons, hf] at hm
  rcases List.mem_cons.mp hm with z | z
  · rw [z, kts_self F] at q
    cases q
  · exact nm z
end
-- part R4
/-- a contract that raises -/
noncomputable def RSpec (w : World) (f : Addr) (args : List Value) (foot : Led) (D U : Nat) (C : Addr) (PD : Obj → Prop) : Prop :=
  ∀ (mean : ExcName → Option Value) (mg mb : Str → Option Value) (dp un : Nat) (gd : Option (List Code)) (cn : Str) (cs : Scope) (a : Addr) (ccd : Value) (cl : List (Str × Addr)) (outer : List Env) (A₀ : Around) (base h₀ : Heap) (L : Addr) (m : Str → Option Value) (s : Shared) (Q E : Value → Shared → Prop),
    Below A₀ base outer h₀ → Fr h₀ L s.heap m → (KF w.params).In h₀ → News h₀ L s.heap foot → TopE mean mg mb h₀ → cs.kind = .function → dp + D < recursionLimit → un + U < cLine →
    (∀ g e t d dob h' tk', Fr h₀ L g m → Keeps foot s.heap g → PD dob → RaisedD base g (envX cn cs L a ccd cl :: outer) e C t d dob .none [] h' → E (.ref e) { s with heap := h', toks := tk' }) →
    wpAny (model pE w) (ktrTop dp un gd cn cs L a ccd cl outer) (call (.ref f) args) Q E s
theorem RSpec.tk {w : World} {f : Addr} {args : List Value} {foot news rest : Led} {D U : Nat} {C : Addr} {PD : Obj → Prop} {mean : ExcName → Option Value} {mg mb : Str → Option Value} {dp un : Nat} {gd : Option (List Code)} {cn : Str} {cs : Scope} {a : Addr} {ccd : Value} {cl : List (Str × Addr)} {outer : List Env} {A₀ : Around} {base h₀ : Heap} {L : Addr} {m : Str → Option Value} {s : Shared} {Q E : Value → Shared → Prop}
    (S : RSpec w f args foot D U C PD) (B : Below A₀ base outer h₀) (F : Fr h₀ L s.heap m) (X : (KF w.params).In h₀) (N : News h₀ L s.heap news) (tk : Take foot news rest) (T : TopE mean mg mb h₀) (hk : cs.kind = .function) (hd : dp + D < recursionLimit) (hu : un + U < cLine)
    (ret : ∀ g e t d dob h' tk', Fr h₀ L g m → PD dob → RaisedD base g (envX cn cs L a ccd cl :: outer) e C t d dob .none [] h' → E (.ref e) { s with heap := h', toks := tk' }) :
    wpAny (model pE w) (ktrTop dp un gd cn cs L a ccd cl outer) (call (.ref f) args) Q E s :=
  S mean mg mb dp un gd cn cs a ccd cl outer A₀ base h₀ L m s Q E B F X (fun q hq => N q (tk.mem.1 q hq)) T hk hd hu fun g e t d dob h' tk' FG _ hD R => ret g e t d dob h' tk' FG hD R
theorem RSpec.tk0 {w : World} {f : Addr} {args : List Value} {news : Led} {D U : Nat} {C : Addr} {PD : Obj → Prop} {mean : ExcName → Option Value} {mg mb : Str → Option Value} {dp un : Nat} {gd : Option (List Code)} {cn : Str} {cs : Scope} {a : Addr} {ccd : Value} {cl : List (Str × Addr)} {outer : List Env} {A₀ : Around} {base h₀ : Heap} {L : Addr} {m : Str → Option Value} {s : Shared} {Q E : Value → Shared → Prop}
    (S : RSpec w f args [] D U C PD) (B : Below A₀ base outer h₀) (F : Fr h₀ L s.heap m) (X : (KF w.params).In h₀) (N : News h₀ L s.heap news) (T : TopE mean mg mb h₀) (hk : cs.kind = .function) (hd : dp + D < recursionLimit) (hu : un + U < cLine)
    (ret : ∀ g e t d dob h' tk', Fr h₀ L g m → News h₀ L g news → PD dob → RaisedD base g (envX cn cs L a ccd cl :: outer) e C t d dob .none [] h' → E (.ref e) { s with heap := h', toks := tk' }) :
    wpAny (model pE w) (ktrTop dp un gd cn cs L a ccd cl outer) (call (.ref f) args) Q E s :=
  S mean mg mb dp un gd cn cs a ccd cl outer A₀ base h₀ L m s Q E B F X (fun _ h => nomatch h) T hk hd hu fun g e t d dob h' tk' FG K hD R => ret g e t d dob h' tk' FG (fun q hq => ⟨K _ _ (N q hq).1 (fun h => nomatch h), (N q hq).2⟩) hD R
/-- a refused pattern's dict -/
noncomputable def BadD (w : World) (dob : Obj) : Prop := ∃ x k tx u k1 k2, dob = dictOf [En w "text" k1 (.str x tx), En w "at" k2 (.int k u)] 2
theorem raise_via {M : Model} {A : Around} {E : Value → Shared → Prop} {s : Shared} {c : PySem.Expr} {pos : Pos} {env : Env} {Q : Flow → Shared → Prop}
    (h : wpAny M A (eval c env) (fun v s₁ => wpAny M A (raiseStmt env (some (pure v)) none) Q E s₁) E s) : wpAny M A (exec (.Raise (some c) none pos) env) Q E s := by
  rw [arm_exec_Raise]
  refine wpAny_bind (wpAny_standAt ?_)
  unfold raiseStmt
  show wpAny M A ((eval c env >>= fun v => standAt pos >>= fun _ => pure v) >>= _) Q E s
  refine wpAny_bind (wpAny_bind (wpAny_mono h (fun v s₁ h₁ => wpAny_bind (wpAny_standAt (wpAny_pure ?_))) fun _ _ x => x))
  unfold raiseStmt at h₁
  dsimp only at h₁
  rw [pure_bind] at h₁
  exact h₁
section
variable {M : Model} {A : Around} {E : Value → Shared → Prop} {env : Env} {K : Frag} {s : Shared} {e C t : Addr} {dd : Option Addr}
theorem raise_done {Q : Flow → Shared → Prop} (X : K.In s.heap) (hq : xcIn K C) (he : s.heap.get? e = some (excObj C t dd .none)) (hh : A.handled = none) (hE : E (.ref e) s) : wpAny M A (raiseStmt env (some (pure (.ref e))) none) Q E s := by
  obtain ⟨_, _, _, _, _, _, _, _, _, _, _, _, _, _, _, hC⟩ := xc_of X hq
  have hcB : (Value.ref C :: excTail).contains (.type "BaseException") = true := by simp
  unfold raiseStmt
  refine wpAny_bind (wpAny_pure ?_)
  obtain ⟨hp, g, d, tk, os⟩ := s
  repeat (first | (with_reducible refine wpAny_loadPart_at he ?_; try show wpAny _ _ (isSubtype (.ref C) _) _ _ _) | with_reducible refine wpAny_loadPart_at hC ?_ | (with_reducible refine wpAny_isSubtype_exc hC ?_; rw [hcB]) | wp_step)
  exact wpAny_raiseNew_none hh hE
end
theorem rowsR4_1 : True := by
  k_with "m exec Raise some none" => (first | (k_here; (with_reducible show wpAny _ _ (exec (Stmt.Raise (some (Expr.Call (Expr.Name _ _) (_ :: _) [] _)) none _) _) _ _ _); k_dflt (refine raise_via ?_)) | fail "row")
  k_with "m call ref" => (first | (k_here; (with_reducible show wpAny _ _ (call (Value.ref 344) _) _ _ _); k_dflt (refine' SpecH.tk (bad_made) ?kA ?kB ?kF ?kX ?kN ?kS ?kR ?kT ?kK ?kD ?kU ?_; (case kA => exact rfl); kwd_inv); k_dflt (rintro v' l' h' tk' ⟨e', e1', t', d', _, _, e2'⟩ F' N' ne'); subst e1'; subst e2'; (simp only [List.cons_append, List.nil_append] at N'); (simp only [AllApart, AllNe, and_true] at ne'); (try dsimp only); (try k_sweep)) | fail "row")
  k_with "m raiseStmt" => (first | (k_here; k_dflt (refine' raise_done (dd := some _) ?k1 ?k2 ?k3 ?k4 ?_; (case k3 => first | exact (‹News _ _ _ _› _ (.head _)).1); (case k1 => exact Frag.In.keeps ‹(KF _).In _› ‹Fr _ _ _ _›.keep); (case k2 => exact ⟨_, _, _, _, _, _, _, _, _, _, _, _, _, _, _, by k_is⟩); (case k4 => exact rfl))) | fail "row")
  k_with "m leaving ref" => (first | (k_here; k_dflt (refine' leave_rD (keep := []) ?k1 ?k2 ?k3 ?k4 ?k5 ?k6 ?_ ?k8 ?k7; (case k8 => exact (fun _ h => nomatch h)); (case k3 => assumption); (case k1 => assumption); (case k2 => assumption); (case k4 => exact .head _); (case k5 => exact .tail _ (.head _)); (case k6 => (simp; done)); (case k7 => exact rfl)); intro h' R'; (try dsimp only)) | fail "row")
  k_with "m leaving ref" => (first | (k_here; k_dflt (refine' leave_oD ?k1 ?k2 ?k3 ?_ ?k4; (case k4 => exact rfl); (case k3 => assumption); (case k1 => assumption); (case k2 => assumption)); intro h' R'; (try dsimp only)) | fail "row")
  trivial
set_option maxHeartbeats 4000000 in
theorem inner_bad {w : World} {p d : Addr} {fl : Str} {fb : Bool} {tf ub t1 t2 t3 t4 t5 t6 t7 tx u1 u2 u3 u4 : Nat} {tot gr : Int} {nm sp : Addr} (hfl : (fl = Str.ofString "" ∧ fb = false) ∨ (fl = Str.ofString "i" ∧ fb = true)) :
    RSpec w 796 [.ref p, .str fl tf, .int 0 ub] [(p, ptObj d), (d, ptDict w t1 t2 t3 t4 t5 t6 t7 tx u1 u2 u3 u4 7 (Str.ofString "(a") tot 1 gr 0 nm sp)] 18 160 344 (BadD w) := by
  intro mean mg mb dp un gd cn cs a ccd cl outer A₀ base h₀ L m s Q E B F X N T hk hd hu ret
  have hpd := neN (pt_ne N)
  have HB : BrSpec w (Str.ofString "(a") fl 1 (1 + 1) [Str.ofString "a"] fb := branch_all (.cons (by decide +kernel) (.inl rfl) (by decide +kernel) (by decide +kernel) (.nil (by decide +kernel) (by decide +kernel))) (by decide) (by decide) (by decide) hfl
  ktr_unf
  k_steps
  k_dflt (exact ret _ _ _ _ _ _ _ (by assumption) (by assumption) ⟨_, _, _, _, _, _, rfl⟩ (by assumption))
theorem rowsR4_2 : True := by
  k_with "m call ref" => (first | (k_here; (with_reducible show wpAny _ _ (call (Value.ref 796) _) _ _ _); k_dflt (refine' RSpec.tk (inner_bad ?hfl) ?kB ?kF ?kX ?kN ?kS ?kT ?kK ?kD ?kU ?_; (case hfl => assumption); ((case kB => k_asm); (case kF => k_asm); (case kX => k_asm); (case kN => k_asm); (case kS => repeat' (first | exact Take.nil | exact Sel.head | exact Take.all | refine' Take.cons ?_ ?_ | refine' Sel.tail ?_)); (case kT => k_asm); (case kK => first | exact rfl | assumption); (case kD => ktr_room); (case kU => ktr_units))); k_dflt (rintro g' e' t' d' dob' h' tk' FG' hD' R')) | fail "row")
  trivial
set_option maxHeartbeats 4000000 in
theorem capture_bad {w : World} {p d : Addr} {fl : Str} {fb : Bool} {tf ub ue t1 t2 t3 t4 t5 t6 t7 tx u1 u2 u3 u4 : Nat} {tot gr : Int} {nm sp : Addr} (hfl : (fl = Str.ofString "" ∧ fb = false) ∨ (fl = Str.ofString "i" ∧ fb = true)) :
    RSpec w 803 [.ref p, .str fl tf, .int 0 ub, .str (Str.ofString "") ue] [(p, ptObj d), (d, ptDict w t1 t2 t3 t4 t5 t6 t7 tx u1 u2 u3 u4 7 (Str.ofString "(a") tot 1 gr 0 nm sp)] 22 180 344 (BadD w) := by
  intro mean mg mb dp un gd cn cs a ccd cl outer A₀ base h₀ L m s Q E B F X N T hk hd hu ret
  have hpd := neN (pt_ne N)
  ktr_unf
  k_steps
  k_dflt (exact ret _ _ _ _ _ _ _ (by assumption) (by assumption) (by assumption) (by assumption))
-- part R5
section
variable {prog : Program} {w : World} {A : Around} {E : Value → Shared → Prop} {s : Shared} {env : Env} {h₀ : Heap} {target : PySem.Expr} {body : List Stmt} {Q : Flow → Shared → Prop} {K : Frag}
/-- a loop over a list of the written part -/
theorem iter_listK {ax : Addr} {lo : Obj} {vs : List Value} {n : Nat} {m₀ : Str → Option Value} {news : List (Addr × Obj)}
    (hh : A.handled = none) (F : Fr h₀ env.locals s.heap m₀) (N : News h₀ env.locals s.heap news) (X₀ : K.In h₀) (hk : K.lookup ax = some lo) (hc : lo.cls = .type "list") (hd : lo.data = .seq vs.toArray n)
    (rest₀ : ∀ I : Addr, (∀ p ∈ news, p.1 < I) → ItemsRest prog w A E h₀ env target body Q s [(I, "list_iterator")] [] (vs.map .val) m₀ news) :
    wpAny (model prog w) A (pyIter (.ref ax)) (fun it s₂ => TurnsAt prog w A h₀ env target body Q E it s₂) E s := by
  have hg : h₀.get? ax = some lo := X₀ _ _ hk
  have hax : s.heap.get? ax = some lo := F.keep _ _ hg
  have hl : s.heap.IsList ax vs.toArray := ⟨lo, hax, hc, n, hd⟩
  have hlt : ax < s.heap.objs.size := Heap.lt_size hax
  have hne : ax ≠ s.heap.objs.size := Nat.ne_of_lt hlt
  refine wpAny_pyIter_list hl ?_
  refine ktg_core (tk0 := s.toks) (keep := []) (KTurns.ofWalks (Walks.list hh s.heap.objs.size ax hne vs.toArray) fun i v s Q E st q => letGo_listiter st.1 q) (by simp) (fun i v h hp => ⟨.val v, ?_, rfl⟩) (fun i h st => ?_) (fun b hb => ?_) (fun b hb => by simpa using hb) (fun b hb => ?_) ?_ (fun p hp hI => ?_) ?_ (F.push _) (fun p hp => ⟨Heap.get?_push_of_some _ (N p hp).1, (N p hp).2⟩) trivial (rest₀ _ fun p hp => Heap.lt_size (N p hp).1)
  · have hp' : vs.toArray[i]? = some v := hp
    simpa using hp'
  · obtain ⟨it, hit, hic, _⟩ := st.1
    exact ⟨[(s.heap.objs.size, it)], ⟨⟨rfl, hic⟩, trivial⟩, fun p hp => by rw [List.mem_singleton.mp hp]; exact hit⟩
  · have hb' : b = s.heap.objs.size := by simpa using hb
    rw [hb']
    exact ⟨List.mem_cons_self .., next_is_new F⟩
  · have hb' : b = s.heap.objs.size ∨ b = ax := by simpa using hb
    rcases hb' with e | e
    · exact .inl (by simp [e])
    · exact .inr (.inr ⟨lo, by rw [e]; exact hg⟩)
  · intro hI
    rcases List.mem_cons.mp hI with z | z
    · exact absurd F.ns.lt (z ▸ Nat.lt_irrefl _)
    · have z' : env.locals = ax := List.mem_singleton.mp z
      exact absurd (Heap.lt_size hg) (Nat.not_lt.mpr (z' ▸ F.above))
  · exact absurd (Heap.lt_size (N p hp).1) ((List.mem_singleton.mp hI) ▸ Nat.lt_irrefl _)
  · exact ⟨⟨_, Heap.get?_push_size _ rfl, rfl, rfl⟩, hl.at fun o e => Heap.get?_push_of_some _ e⟩
end
theorem rowsR5_1 : True := by
  k_with "m call ref" => (first | (k_here; (with_reducible show wpAny _ _ (call (Value.ref 803) _) _ _ _); k_dflt (refine' RSpec.tk (capture_bad ?hfl) ?kB ?kF ?kX ?kN ?kS ?kT ?kK ?kD ?kU ?_; (case hfl => assumption); ((case kB => k_asm); (case kF => k_asm); (case kX => k_asm); (case kN => k_asm); (case kS => repeat' (first | exact Take.nil | exact Sel.head | exact Take.all | refine' Take.cons ?_ ?_ | refine' Sel.tail ?_)); (case kT => k_asm); (case kK => first | exact rfl | assumption); (case kD => ktr_room); (case kU => ktr_units))); k_dflt (rintro g' e' t' d' dob' h' tk' FG' hD' R')) | fail "row")
  k_with "m pyIter ref" => (first | (k_here; (with_reducible show wpAny _ _ (pyIter (Value.ref _)) (fun it s₂ => TurnsAt _ _ _ _ _ _ _ _ _ it s₂) _ _); (with_unfolding_all refine' iter_listK ?h ?F ?N ?X ?k ?c ?d ?_; (case h => with_unfolding_all rfl); (case F => k_asm); (case N => k_asm); (case X => k_asm); (case k => k_is); (case c => exact rfl); (case d => exact rfl); k_whole); intro i' l1; (try k_lt l1)) | fail "row")
  trivial
set_option maxHeartbeats 8000000 in
theorem group_bad {w : World} {p d : Addr} {fl : Str} {fb : Bool} {tf t1 t2 t3 t4 t5 t6 t7 tx u1 u2 u3 u4 : Nat} {tot gr : Int} {nm sp : Addr} (hfl : (fl = Str.ofString "" ∧ fb = false) ∨ (fl = Str.ofString "i" ∧ fb = true)) :
    RSpec w 817 [.ref p, .str fl tf] [(p, ptObj d), (d, ptDict w t1 t2 t3 t4 t5 t6 t7 tx u1 u2 u3 u4 7 (Str.ofString "(a") tot 0 gr 0 nm sp)] 26 200 344 (BadD w) := by
  intro mean mg mb dp un gd cn cs a ccd cl outer A₀ base h₀ L m s Q E B F X N T hk hd hu ret
  have hpd := neN (pt_ne N)
  ktr_unf
  k_steps
  k_dflt (exact ret _ _ _ _ _ _ _ (by assumption) (by assumption) (by assumption) (by assumption))
theorem rowsR5_2 : True := by
  k_with "m call ref" => (first | (k_here; (with_reducible show wpAny _ _ (call (Value.ref 817) _) _ _ _); k_dflt (refine' RSpec.tk (group_bad ?hfl) ?kB ?kF ?kX ?kN ?kS ?kT ?kK ?kD ?kU ?_; (case hfl => assumption); ((case kB => k_asm); (case kF => k_asm); (case kX => k_asm); (case kN => k_asm); (case kS => repeat' (first | exact Take.nil | exact Sel.head | exact Take.all | refine' Take.cons ?_ ?_ | refine' Sel.tail ?_)); (case kT => k_asm); (case kK => first | exact rfl | assumption); (case kD => ktr_room); (case kU => ktr_units))); k_dflt (rintro g' e' t' d' dob' h' tk' FG' hD' R')) | fail "row")
  trivial
set_option maxHeartbeats 8000000 in
theorem atom_bad {w : World} {p d : Addr} {fl : Str} {fb : Bool} {tf t1 t2 t3 t4 t5 t6 t7 tx u1 u2 u3 u4 : Nat} {tot gr : Int} {nm sp : Addr} (hfl : (fl = Str.ofString "" ∧ fb = false) ∨ (fl = Str.ofString "i" ∧ fb = true)) :
    RSpec w 782 [.ref p, .str fl tf] [(p, ptObj d), (d, ptDict w t1 t2 t3 t4 t5 t6 t7 tx u1 u2 u3 u4 7 (Str.ofString "(a") tot 0 gr 0 nm sp)] 30 230 344 (BadD w) := by
  intro mean mg mb dp un gd cn cs a ccd cl outer A₀ base h₀ L m s Q E B F X N T hk hd hu ret
  have hpd := neN (pt_ne N)
  have hfl' : fl = Str.ofString "" ∨ fl = Str.ofString "i" := hfl.imp And.left And.left
  ktr_unf
  k_steps
  k_dflt (exact ret _ _ _ _ _ _ _ (by assumption) (by assumption) (by assumption) (by assumption))
theorem rowsR5_3 : True := by
  k_with "m call ref" => (first | (k_here; (with_reducible show wpAny _ _ (call (Value.ref 782) _) _ _ _); k_dflt (refine' RSpec.tk (atom_bad ?hfl) ?kB ?kF ?kX ?kN ?kS ?kT ?kK ?kD ?kU ?_; (case hfl => assumption); ((case kB => k_asm); (case kF => k_asm); (case kX => k_asm); (case kN => k_asm); (case kS => repeat' (first | exact Take.nil | exact Sel.head | exact Take.all | refine' Take.cons ?_ ?_ | refine' Sel.tail ?_)); (case kT => k_asm); (case kK => first | exact rfl | assumption); (case kD => ktr_room); (case kU => ktr_units))); k_dflt (rintro g' e' t' d' dob' h' tk' FG' hD' R')) | fail "row")
  trivial
set_option maxHeartbeats 8000000 in
theorem branch_bad {w : World} {p d : Addr} {fl : Str} {fb : Bool} {tf t1 t2 t3 t4 t5 t6 t7 tx u1 u2 u3 u4 : Nat} {tot gr : Int} {nm sp : Addr} (hfl : (fl = Str.ofString "" ∧ fb = false) ∨ (fl = Str.ofString "i" ∧ fb = true)) :
    RSpec w 775 [.ref p, .str fl tf] [(p, ptObj d), (d, ptDict w t1 t2 t3 t4 t5 t6 t7 tx u1 u2 u3 u4 7 (Str.ofString "(a") tot 0 gr 0 nm sp)] 34 260 344 (BadD w) := by
  intro mean mg mb dp un gd cn cs a ccd cl outer A₀ base h₀ L m s Q E B F X N T hk hd hu ret
  have hpd := neN (pt_ne N)
  have hfl' : fl = Str.ofString "" ∨ fl = Str.ofString "i" := hfl.imp And.left And.left
  ktr_unf
  k_steps
  k_dflt (exact ret _ _ _ _ _ _ _ (by assumption) (by assumption) (by assumption) (by assumption))
theorem rowsR5_4 : True := by
  k_with "m call ref" => (first | (k_here; (with_reducible show wpAny _ _ (call (Value.ref 775) _) _ _ _); k_dflt (refine' RSpec.tk (branch_bad ?hfl) ?kB ?kF ?kX ?kN ?kS ?kT ?kK ?kD ?kU ?_; (case hfl => assumption); ((case kB => k_asm); (case kF => k_asm); (case kX => k_asm); (case kN => k_asm); (case kS => repeat' (first | exact Take.nil | exact Sel.head | exact Take.all | refine' Take.cons ?_ ?_ | refine' Sel.tail ?_)); (case kT => k_asm); (case kK => first | exact rfl | assumption); (case kD => ktr_room); (case kU => ktr_units))); k_dflt (rintro g' e' t' d' dob' h' tk' FG' hD' R')) | fail "row")
  trivial
set_option maxHeartbeats 8000000 in
theorem alternation_bad {w : World} {p d : Addr} {fl : Str} {fb : Bool} {tf t1 t2 t3 t4 t5 t6 t7 tx u1 u2 u3 u4 : Nat} {tot gr : Int} {nm sp : Addr} (hfl : (fl = Str.ofString "" ∧ fb = false) ∨ (fl = Str.ofString "i" ∧ fb = true)) :
    RSpec w 768 [.ref p, .str fl tf] [(p, ptObj d), (d, ptDict w t1 t2 t3 t4 t5 t6 t7 tx u1 u2 u3 u4 7 (Str.ofString "(a") tot 0 gr 0 nm sp)] 38 290 344 (BadD w) := by
  intro mean mg mb dp un gd cn cs a ccd cl outer A₀ base h₀ L m s Q E B F X N T hk hd hu ret
  have hpd := neN (pt_ne N)
  have hfl' : fl = Str.ofString "" ∨ fl = Str.ofString "i" := hfl.imp And.left And.left
  ktr_unf
  k_steps
  k_dflt (exact ret _ _ _ _ _ _ _ (by assumption) (by assumption) (by assumption) (by assumption))
theorem rowsR5_5 : True := by
  k_with "m call ref" => (first | (k_here; (with_reducible show wpAny _ _ (call (Value.ref 768) _) _ _ _); k_dflt (refine' RSpec.tk (alternation_bad ?hfl) ?kB ?kF ?kX ?kN ?kS ?kT ?kK ?kD ?kU ?_; (case hfl => assumption); ((case kB => k_asm); (case kF => k_asm); (case kX => k_asm); (case kN => k_asm); (case kS => repeat' (first | exact Take.nil | exact Sel.head | exact Take.all | refine' Take.cons ?_ ?_ | refine' Sel.tail ?_)); (case kT => k_asm); (case kK => first | exact rfl | assumption); (case kD => ktr_room); (case kU => ktr_units))); k_dflt (rintro g' e' t' d' dob' h' tk' FG' hD' R')) | fail "row")
  trivial
-- part R6
set_option maxHeartbeats 8000000 in
theorem parse_bad {w : World} {fl : Str} {fb : Bool} {tx tf : Nat} (hfl : (fl = Str.ofString "" ∧ fb = false) ∨ (fl = Str.ofString "i" ∧ fb = true)) :
    RSpec w 836 [.str (Str.ofString "(a") tx, .str fl tf] [] 44 330 344 (BadD w) := by
  intro mean mg mb dp un gd cn cs a ccd cl outer A₀ base h₀ L m s Q E B F X N T hk hd hu ret
  have hcg : cgOf (Str.ofString "(a") 1 := .inr ⟨rfl, rfl⟩
  have hfl2 := hfl
  ktr_unf
  have hcut : CutOn := trivial
  k_steps
  clear hcut
  rename Fr _ _ _ _ => F7
  rename News _ _ _ _ => N7
  rename (_ = Data.cell _) => d7
  k_dflt (refine' Hold.go (cut_cell (x := fl) (s := s) (some (.str fl tf)) F7 N7 d7 ?hm ?walk ?rest); (case hm => k_mem))
  case walk =>
    intro R oc hoc NR
    clear N7 d7
    exact flags_join hfl (by assumption) (by assumption) (by assumption) (by assumption) NR hoc
  case rest =>
  intro h9 tk9 t9 F9 N9
  clear F7 N7
  try dsimp only
  k_steps
  all_goals k_dflt (exact ret _ _ _ _ _ _ _ (by assumption) (by assumption) (by assumption) (by assumption))
theorem rowsR6_1 : True := by
  k_with "m call ref" => (first | (k_here; (with_reducible show wpAny _ _ (call (Value.ref 836) [Value.str (PySem.Str.ofString "(a") _, _]) _ _ _); k_dflt (refine' RSpec.tk (parse_bad ?hfl) ?kB ?kF ?kX ?kN ?kS ?kT ?kK ?kD ?kU ?_; (case hfl => assumption); ((case kB => k_asm); (case kF => k_asm); (case kX => k_asm); (case kN => k_asm); (case kS => repeat' (first | exact Take.nil | exact Sel.head | exact Take.all | refine' Take.cons ?_ ?_ | refine' Sel.tail ?_)); (case kT => k_asm); (case kK => first | exact rfl | assumption); (case kD => ktr_room); (case kU => ktr_units))); k_dflt (rintro g' e' t' d' dob' h' tk' FG' hD' R')) | fail "row")
  trivial
theorem compile_bad {w : World} {fl : Str} {fb : Bool} {tx tf : Nat} (hfl : (fl = Str.ofString "" ∧ fb = false) ∨ (fl = Str.ofString "i" ∧ fb = true)) :
    RSpec w 843 [.str (Str.ofString "(a") tx, .str fl tf] [] 48 350 344 (BadD w) := by
  intro mean mg mb dp un gd cn cs a ccd cl outer A₀ base h₀ L m s Q E B F X N T hk hd hu ret
  ktr_unf
  k_steps
  k_dflt (exact ret _ _ _ _ _ _ _ (by assumption) (by assumption) (by assumption) (by assumption))
-- part R7
theorem FlyD.same {B h h' : Heap} {l : List Env} {L e C t : Addr} {dd : Option Addr} {cx fl : Value} {m m' : Str → Option Value} (x : FlyD B l e C t dd cx fl h) (hn : h.Ns L m) (hn' : h'.Ns L m') (hs : Heap.SameBut L h h') (hL : B.get? L = none) : FlyD B l e C t dd cx fl h' := by
  obtain ⟨hkb, hen, hl, T, oT, ts, he, hnT, hTe, hT, hdT, h3⟩ := x
  obtain ⟨o, es, ep, ho, hd, _⟩ := hn
  obtain ⟨o', es', ep', ho', hd', _⟩ := hn'
  have neL : ∀ b ob vs, h.get? b = some ob → ob.data = .fields vs → b ≠ L := fun b ob vs hb hv q => by
    rw [q, ho] at hb
    injection hb with hb
    rw [← hb, hd] at hv
    cases hv
  refine ⟨fun b ob hb => (hs.2 b fun q => by rw [q, hL] at hb; cases hb).trans (hkb b ob hb), hen, ?_, T, oT, ts, (hs.2 e (neL _ _ _ he rfl)).trans he, hnT, hTe, (hs.2 T (neL _ _ _ hT hdT)).trans hT, hdT, h3⟩
  clear he hT
  induction l with
  | nil => trivial
  | cons env l ih =>
    obtain ⟨a, ⟨b, ob, hf, hb, hob, hnf⟩, r⟩ := hl
    refine ⟨a, ?_, ih r⟩
    by_cases q : b = L
    · subst q
      exact ⟨b, o', hf, hb, ho', fun vs z => by rw [hd'] at z; cases z⟩
    · exact ⟨b, ob, hf, hb, (hs.2 b q).trans hob, hnf⟩
section
variable {prog : Program} {w : World} {A : Around} {E : Value → Shared → Prop} {s : Shared} {base g : Heap} {outer : List Env} {L a e C t d : Addr} {dob : Obj} {m : Str → Option Value} {name n : Str} {scope : Scope} {cd : Value} {news keep : Led} {cx : Value}
theorem d_passOn {M : Model} {A' : Around} {E' : Value → Shared → Prop} {what : String} {env : Env} {B : Heap} {l : List Env} {dd : Option Addr} {fl : Value} {Q : Flow → Shared → Prop} (hf : env.frame = some L) (x : FlyD B l e C t dd cx fl s.heap)
    (h : ∀ h', FlyD B l e C t dd cx (rawInt L) h' → s.heap.UpToSlots h' → E' (.ref e) { s with heap := h' }) : wpAny M A' (PySem.passOn what (.ref e) env : Sem Flow) Q E' s := by
  obtain ⟨T, oT, ts, he, _⟩ := id x.2.2.2
  unfold PySem.passOn
  refine wpAny_bind (wpAny_field (x := .ref T) he rfl rfl ?_)
  rw [if_neg (by simp)]
  refine wpAny_bind (d_flight (at_ := env.frame) x fun h' x' u => wpAny_throw (h h' ?_ u))
  rw [hf] at x'
  exact x'
theorem d_cameBack {M : Model} {A' : Around} {E' : Value → Shared → Prop} {env : Env} {B : Heap} {l : List Env} {dd : Option Addr} {fl : Value} (hf : env.frame = some L) (x : FlyD B l e C t dd cx fl s.heap)
    (h : ∀ h', FlyD B l e C t dd cx (rawInt L) h' → s.heap.UpToSlots h' → E' (.ref e) { s with heap := h' }) : cameBackBy M A' env E' (.ref e) s := by
  obtain ⟨T, oT, ts, he, _⟩ := id x.2.2.2
  show wpAny M A' _ _ _ _
  refine wpAny_bind (wpAny_field (x := .ref T) he rfl rfl ?_)
  rw [if_neg (by simp)]
  refine d_flight (at_ := env.frame) x fun h' x' u => h h' ?_ u
  rw [hf] at x'
  exact x'
/-- the suite of «except .. as» raises anew: out of the def -/
theorem suite_raised {M : Model} {hv : Option Value} {pos : Pos} {Qe : Value → Unit → Shared → Prop} {Ee : Value → Value → Shared → Prop} (K : Below A base outer g) (F : Fr g L s.heap m) (N : News g L s.heap news) (he : (e, excObjC C t (some d) .none cx) ∈ news) (hd : (d, dob) ∈ news) (hdd : dob.cls ≠ .ref C)
    (hkp : ∀ q ∈ keep, q ∈ news ∧ q.1 ≠ e) (hQ : ∀ h' tk', RaisedD base g outer e C t d dob cx keep h' → Qe (.ref e) () { s with heap := h', toks := tk' }) (hl : (envOf name scope L a cd).kindOf n = some .local) (hk : scope.kind = .function) :
    AsSuiteRaised M ((A.deeper (envOf name scope L a cd)).mark hv) (envOf name scope L a cd) n pos (notedBy M ((A.deeper (envOf name scope L a cd)).mark hv) (envOf name scope L a cd) (cameBackBy M (A.deeper (envOf name scope L a cd)) (envOf name scope L a cd)
      (fun e s' => wpAny M (A.deeper (envOf name scope L a cd)) (leaving (envOf name scope L a cd) e) (Qe e) (Ee e) s'))) (.ref e) s := by
  have K' := K.push (name := name) (a := a) (cd := cd) F hk
  have hde : d ≠ e := fun q => by
    have h1 := (N _ hd).1
    have h2 := (N _ he).1
    dsimp only at h1 h2
    rw [q, h2] at h1
    injection h1 with h1
    exact hdd (congrArg Obj.cls h1).symm
  have nfr : ∀ b, g.get? b = none → b ≠ L → b ∉ (envOf name scope L a cd :: outer).filterMap (·.frame) := fun b hb hbL hm => by
    rcases kts_mem hm with z | z
    · exact hbL z
    · obtain ⟨_, o, ho, _⟩ := K.frames.mem z
      rw [hb] at ho; cases ho
  let as := e :: (envOf name scope L a cd :: outer).filterMap (·.frame)
  have hin : ∀ env ∈ (envOf name scope L a cd :: outer), ∀ b, env.frame = some b → b ∈ as := fun env he b hb => .tail _ (List.mem_filterMap.mpr ⟨env, he, hb⟩)
  have eg := (N _ he).2.2
  have st : base.StaysIn (hideAll s.heap as) := fun b o q => hideAll_get _ (K'.stays b o q) fun hm => by
    rcases List.mem_cons.mp hm with z | z
    · rw [z, fresh_of_stays K.stays eg] at q; cases q
    · rw [(K'.frames.mem z).1] at q; cases q
  have sg : ∀ b o, g.get? b = some o → b ∉ outer.filterMap (·.frame) → (hideAll s.heap as).get? b = some o := fun b o q nm => hideAll_get _ (F.keep b o q) fun hm => by
    rcases List.mem_cons.mp hm with z | z
    · rw [z, eg] at q; cases q
    · rcases kts_mem z with z | z
      · rw [z, kts_self F] at q
        cases q
      · exact nm z
  have hL : (hideAll s.heap as).get? L = none := hideAll_none _ (hin _ (.head _) L rfl)
  have hfr : ((A.deeper (envOf name scope L a cd)).mark hv).frames = some (envOf name scope L a cd :: outer) := K'.stack
  have fin : ∀ (s₃ : Shared), s₃.heap = s₃.heap → FlyD (hideAll s.heap as) (envOf name scope L a cd :: outer) e C t (some d) cx (rawInt L) s₃.heap → g.UpToSlots s₃.heap → (∀ h', ∃ tk', { s₃ with heap := h' } = { s with heap := h', toks := tk' }) →
      wpAny M (A.deeper (envOf name scope L a cd)) (leaving (envOf name scope L a cd) (.ref e)) (Qe (.ref e)) (Ee (.ref e)) s₃ := by
    intro s₃ _ x₃ u₃ hs₃
    unfold leaving
    refine wpAny_bind (d_again (h := s₃.heap) rfl x₃ (d_flight (at_ := none) x₃ fun h₄ x₄ u₄ => ?_))
    obtain ⟨tk', e'⟩ := hs₃ h₄
    rw [e']
    refine hQ h₄ tk' ⟨⟨_, st, sg, hideAll_get _ (N _ hd).1 fun hm => ?_, (N _ hd).2.2, eg, fun q hq => hideAll_get _ (N _ (hkp q hq).1).1 fun hm => ?_, x₄.pop⟩, u₃.trans u₄⟩
    · rcases List.mem_cons.mp hm with z | z
      · exact hde z
      · exact nfr d (N _ hd).2.2 (N _ hd).2.1 z
    · rcases List.mem_cons.mp hm with z | z
      · exact (hkp q hq).2 z
      · exact nfr q.1 (N _ (hkp q hq).1).2.2 (N _ (hkp q hq).1).2.1 z
  refine d_first (B := hideAll s.heap as) hfr (funFrames_hide K'.frames hin) rfl (N _ he).1 (fun b o q => of_hideAll _ q) (hideAll_none _ (.head _)) fun h₁ x₁ u₁ => ?_
  have n₁ : h₁.Ns L m := u₁.ns F.ns
  refine wpAny_nameGoes (m := m) hl n₁ (by show (scope.kind == .class || (scope.kind == .module && L != mainGlobals)) = false; rw [hk]; rfl) fun h₂ m₂ n₂ s₂ => ?_
  have x₂ := x₁.same n₁ n₂ s₂ hL
  have u₂ : g.UpToSlots h₂ := fun b o hb hnf => by
    obtain ⟨sl, hs⟩ := u₁ b o (F.keep b o hb) hnf
    exact ⟨sl, (s₂.2 b fun (q : b = L) => by rw [q, kts_self F] at hb; cases hb).trans hs⟩
  refine d_passOn (L := L) rfl x₂ fun h₃ x₃ u₃ => ?_
  refine d_again (h := h₃) rfl x₃ (d_cameBack (L := L) rfl x₃ fun h₄ x₄ u₄ => fin _ rfl x₄ (u₂.trans (u₃.trans u₄)) fun h' => ⟨_, rfl⟩)
end
-- part R8
theorem entry_unchain : entryFor table "proto.unchain" = some Builtin.«proto.unchain» := entryFor_of_tree (by kernel_rfl)
section
variable {prog : Program} {w : World} {A : Around} {E : Value → Shared → Prop} {env : Env} {K : Frag} {s : Shared} {h₀ : Heap} {L e e0 C C0 t t0 : Addr} {dd dd0 : Option Addr} {tb0 : Value} {m : Str → Option Value} {news : Led}
/-- raised while another is handled -/
theorem raise_chain {Q : Flow → Shared → Prop} (X : K.In s.heap) (hq : xcIn K C) (F : Fr h₀ L s.heap m) (N : News h₀ L s.heap ((e, excObj C t dd .none) :: news)) (hnews : ∀ p ∈ news, p.1 ≠ e) (h0 : s.heap.get? e0 = some (excObj C0 t0 dd0 tb0)) (hne : e0 ≠ e) (hh : A.handled = some (.ref e0))
    (hE : ∀ h', Fr h₀ L h' m → News h₀ L h' ((e, excObjC C t dd .none (.ref e0)) :: news) → E (.ref e) { s with heap := h' }) : wpAny (model prog w) A (raiseStmt env (some (pure (.ref e))) none) Q E s := by
  obtain ⟨_, _, _, _, _, _, _, _, _, _, _, _, _, _, _, hC⟩ := xc_of X hq
  have hcB : (Value.ref C :: excTail).contains (.type "BaseException") = true := by simp
  have he := (N _ (.head _)).1
  obtain ⟨F2, N2⟩ := news_upd (pre := []) (f := Obj.mapFields (·.setIfInBounds 2 (.ref e0))) (o' := excObjC C t dd .none (.ref e0)) F N (fun _ h => nomatch h) hnews rfl rfl
  unfold raiseStmt
  refine wpAny_bind (wpAny_pure ?_)
  obtain ⟨hp, g, d, tk, os⟩ := s
  repeat (first | (with_reducible refine wpAny_loadPart_at he ?_; try show wpAny _ _ (isSubtype (.ref C) _) _ _ _) | with_reducible refine wpAny_loadPart_at hC ?_ | (with_reducible refine wpAny_isSubtype_exc hC ?_; rw [hcB]) | wp_step)
  unfold raiseNew
  refine wpAny_bind (wpAny_handled ?_)
  rw [hh]
  dsimp only
  rw [if_pos (by simpa using hne)]
  refine wpAny_bind (wpAny_holding (wpAny_runValue (codeAny_builtin entry_unchain ?_)))
  unfold Builtin.«proto.unchain»
  refine wpAny_bind (wpAny_field (x := .none) h0 rfl rfl ?_)
  rw [if_pos (by decide)]
  refine wpAny_bind (wpAny_pure (wpAny_pure ?_))
  show wpAny _ _ (updateField e 2 (.ref e0) >>= fun _ => throw (.ref e)) _ _ _
  unfold updateField
  refine wpAny_bind (wpAny_bind (wpAny_load he ?_))
  dsimp only
  rw [if_pos (by simp)]
  exact wpAny_update he (wpAny_throw (hE _ F2 N2))
end
theorem x_matches {M : Model} {A : Around} {E : Value → Shared → Prop} {K : Frag} {s : Shared} {e C Dc : Addr} {oe : Obj} {bmC bmD : List Value} {Q : Bool → Shared → Prop} (X : K.In s.heap) (hc : xcInB K C bmC) (hd : xcInB K Dc bmD) (hbD : (Value.ref Dc :: bmD).contains (.type "BaseException") = true) (hCD : (Value.ref C :: bmC).contains (.ref Dc) = true)
    (he : s.heap.get? e = some oe) (hcls : oe.cls = .ref C) (hq : Q true s) : wpAny M A (excMatches (.ref e) (.ref Dc)) Q E s := by
  obtain ⟨_, _, _, _, _, _, _, _, _, _, _, _, _, _, _, hC⟩ := xc_ofB X hc
  obtain ⟨_, _, _, _, _, _, _, _, _, _, _, _, _, _, _, hD⟩ := xc_ofB X hd
  have f := tc_notTuple
  obtain ⟨hp, g, d, tk, os⟩ := s
  unfold excMatches
  repeat (first | (with_reducible refine wpAny_loadPart_at he ?_; rw [hcls]) | with_reducible refine wpAny_loadPart_at hD ?_ | with_reducible refine wpAny_loadPart_at hC ?_ | (with_reducible refine wpAny_isSubtype_exc hD ?_; rw [hbD]) | (with_reducible refine wpAny_isSubtype_exc hC ?_; rw [hCD]) | wp_step)
  exact hq
theorem RaisedD.turn {base g g' : Heap} {l : List Env} {e C t d : Addr} {dob : Obj} {cx : Value} {keep : Led} {h : Heap} (KT : KtsTurn (l.filterMap (·.frame)) g g') (R : RaisedD base g' l e C t d dob cx keep h) : RaisedD base g l e C t d dob cx keep h := by
  obtain ⟨⟨B, hB, hBG, hdo, hdn, hen, hkp, hfl⟩, hu⟩ := R
  have gn : ∀ b, g'.get? b = none → g.get? b = none := fun b hb => by
    cases q : g.get? b with
    | none => rfl
    | some o =>
      obtain ⟨sl, hs⟩ := KT.up q
      rw [hb] at hs
      cases hs
  refine ⟨⟨B, hB, fun b o q nm => hBG b o (KT.other b o q nm) nm, hdo, gn _ hdn, gn _ hen, hkp, hfl⟩, fun b o hb hnf => ?_⟩
  obtain ⟨sl, hs⟩ := KT.up hb
  obtain ⟨sl2, hs2⟩ := hu b _ hs hnf
  exact ⟨sl2, hs2⟩
/-- a contract that raises out of a handler: its footprint stands -/
noncomputable def RSpecB (w : World) (f : Addr) (args : List Value) (foot : Led) (D U : Nat) (C : Addr) : Prop :=
  ∀ (mean : ExcName → Option Value) (mg mb : Str → Option Value) (dp un : Nat) (gd : Option (List Code)) (cn : Str) (cs : Scope) (a : Addr) (ccd : Value) (cl : List (Str × Addr)) (outer : List Env) (A₀ : Around) (base h₀ : Heap) (L : Addr) (m : Str → Option Value) (s : Shared) (Q E : Value → Shared → Prop),
    Below A₀ base outer h₀ → Fr h₀ L s.heap m → (KF w.params).In h₀ → News h₀ L s.heap foot → TopE mean mg mb h₀ → (KF w.params).In base → TopE mean mg mb base → cs.kind = .function → dp + D < recursionLimit → un + U < cLine →
    (∀ g e t d dob cx h' tk', Fr h₀ L g m → Keeps foot s.heap g → RaisedD base g (envX cn cs L a ccd cl :: outer) e C t d dob cx foot h' → E (.ref e) { s with heap := h', toks := tk' }) →
    wpAny (model pE w) (ktrTop dp un gd cn cs L a ccd cl outer) (call (.ref f) args) Q E s
/-- at a handler with a name -/
theorem catch_as {w : World} {A : Around} {E : Value → Shared → Prop} {s' : Shared} {base g G : Heap} {outer : List Env} {L a e C Dc t d : Addr} {dob : Obj} {m : Str → Option Value} {name n x : Str} {scope : Scope} {cd : Value} {news keep : Led} {cx : Value} {bmC bmD : List Value} {np pos : Pos} {b₀ : Stmt} {suite : List Stmt} {rest : List ExceptHandler} {Q : Flow → Shared → Prop} {mean : ExcName → Option Value} {mg mb : Str → Option Value}
    (R : RaisedD base G (envOf name scope L a cd :: outer) e C t d dob cx keep s'.heap) (F : Fr g L G m) (K : Below A base outer g) (N : News g L G news) (XB : (KF w.params).In base) (TB : TopE mean mg mb base)
    (hc : xcInB (KF w.params) C bmC) (hd : xcInB (KF w.params) Dc bmD) (hbD : (Value.ref Dc :: bmD).contains (.type "BaseException") = true) (hCD : (Value.ref C :: bmC).contains (.ref Dc) = true)
    (hname : ∀ (g5 h5 : Heap) (Q' E' : Value → Shared → Prop), Fr g5 L h5 m → (KF w.params).In g5 → TopE mean mg mb g5 → Q' (.ref Dc) { s' with heap := h5 } → wpAny (model pE w) ((A.deeper (envOf name scope L a cd)).mark (some (.ref e))) (eval (.Name x np) (envOf name scope L a cd)) Q' E' { s' with heap := h5 })
    (k : ∀ h' g' T tk, KtsTurn (outer.filterMap (·.frame)) g g' → Fr g' L h' (fun y => if y = n then some (.ref e) else m y) → News g' L h' ((e, excObjC C t (some d) (.ref T) cx) :: (d, dob) :: news) → Below A base outer g' → (KF w.params).In g' → TopE mean mg mb g' →
      wpAny (model pE w) ((A.deeper (envOf name scope L a cd)).mark (some (.ref e))) (execs (b₀ :: suite) (envOf name scope L a cd))
        (fun f s₄ => wpAny (model pE w) (A.deeper (envOf name scope L a cd)) (do bindName (envOf name scope L a cd) n .none; unbindBehindTheSuite (envOf name scope L a cd) n pos) (fun _ s₅ => Q f s₅) E s₄)
        (AsSuiteRaised (model pE w) ((A.deeper (envOf name scope L a cd)).mark (some (.ref e))) (envOf name scope L a cd) n pos (notedBy (model pE w) ((A.deeper (envOf name scope L a cd)).mark (some (.ref e))) (envOf name scope L a cd) (cameBackBy (model pE w) (A.deeper (envOf name scope L a cd)) (envOf name scope L a cd) E)))
        { s' with heap := h', toks := tk })
    (hk : scope.kind = .function := by rfl) (hlo : (envOf name scope L a cd).kindOf n = some .local := by rfl) :
    wpAny (model pE w) (A.deeper (envOf name scope L a cd)) (noteFrame (.ref e) (envOf name scope L a cd))
      (fun _ s₂ => wpAny (model pE w) (A.deeper (envOf name scope L a cd)) (setFlight (.ref e) none) (fun _ s₃ =>
        wpAny (model pE w) (A.deeper (envOf name scope L a cd)) (handleBy (.ref e) (envOf name scope L a cd) (.ExceptHandler (some (.Name x np)) (some n) (b₀ :: suite) pos :: rest)) Q E s₃) E s₂) E s' := by
  obtain ⟨⟨B, hB, hBG, hdo, hdn, hen, hkp, hfl⟩, hu⟩ := R
  refine d_next (Around.frames_deeper K.stack) rfl hfl fun h₄ x₄ u₄ => ?_
  refine d_flight (at_ := none) x₄ fun h₅ x₅ u₅ => ?_
  obtain ⟨g₅, T₅, F₅, K₅⟩ := kts_ground K F hBG x₅.1 (hu.trans (u₄.trans u₅))
  obtain ⟨tb, hob⟩ := x₅.there
  refine wpAny_handleBy_cons (codeAny_handlers_test (hname g₅ h₅ _ _ F₅ (XB.keeps K₅.stays) (TB.keeps K₅.stays) ?_)) (by intro q; cases q)
  refine x_matches (K := KF w.params) (s := { s' with heap := h₅ }) (XB.keeps fun b o e => F₅.keep b o (K₅.stays b o e)) hc hd hbD hCD hob rfl (codeAny_handlers_suite_as ?_)
  refine d_flight (at_ := none) x₅ fun h₆ x₆ u₆ => ?_
  obtain ⟨g₆, T₆, F₆, K₆⟩ := kts_ground K F hBG x₆.1 (hu.trans (u₄.trans (u₅.trans u₆)))
  obtain ⟨T, oT, ts, he₆, _⟩ := id x₆.2.2.2
  have hLn : B.get? L = none := by
    obtain ⟨_, ⟨L', _, hf, hn', _⟩, _⟩ := x₆.2.2.1
    obtain rfl : L = L' := Option.some.inj hf
    exact hn'
  have gn : ∀ b, g.get? b = none → g₆.get? b = none := T₆.none_
  have N₆ : News g₆ L h₆ ((e, excObjC C t (some d) (.ref T) cx) :: (d, dob) :: news) := by
    intro q hq
    rcases List.mem_cons.mp hq with rfl | hq
    · refine ⟨he₆, fun z => ?_, gn _ (kts_none F.keep hen)⟩
      obtain ⟨o, es, ep, ho, hdd, _⟩ := F₆.ns
      dsimp only at z
      rw [z] at he₆
      rw [he₆] at ho
      injection ho with ho
      rw [← ho] at hdd
      cases hdd
    · rcases List.mem_cons.mp hq with rfl | hq
      · exact ⟨x₆.1 _ _ hdo, fun (z : d = L) => (by rw [z, hLn] at hdo; cases hdo), gn _ (kts_none F.keep hdn)⟩
      · have D := N q hq
        refine ⟨x₆.1 _ _ (hBG _ _ D.1 fun hm => ?_), D.2.1, gn _ D.2.2⟩
        rcases kts_mem hm with z | z
        · exact D.2.1 z
        · obtain ⟨_, o, ho, _⟩ := K.frames.mem z
          rw [D.2.2] at ho
          cases ho
  refine stN F₆ N₆ (fun h₇ F₇ N₇ => ?_) hk hlo
  exact k h₇ g₆ T _ T₆ F₇ N₇ K₆ (XB.keeps K₆.stays) (TB.keeps K₆.stays)
-- part R9
section
variable {prog : Program} {w : World} {A : Around} {E : Value → Shared → Prop} {s : Shared} {K : Frag} {x C : Addr} {ox : Obj} {od : Option Obj} {name : Str} {expr : Bool} {Q : Value → Shared → Prop} {v : Value}
theorem get_exc (X : K.In s.heap) (I : InstAt s.heap x ox C od) (hga : findIn K (.ref C) "__getattribute__" = some (some (.builtin "BaseException.__getattribute__"))) (hgt : findIn K (.ref C) "__getattr__" = some none)
    (hm : mroIn K C (.type "BaseException") = some true) (hf : findObj K C od name = some (.value v)) (hh : handedIn v = true) (h : Q v { s with toks := s.toks + 1 }) : wpAny (model prog w) A (getAttr (.ref x) name expr) Q E s := by
  obtain ⟨hp, g, d, t, os⟩ := s
  have L0 := I.type (M := model prog w)
  have L1 := looks_findIn (M := model prog w) X hga
  have L2 := looks_findIn (M := model prog w) X hgt
  have L3 := looks_find (M := model prog w) X I hf
  have FB := PySem.F.attrBase_Exception
  have sub : Looks (model prog w) hp (isInstance (.ref x) (.type "BaseException")) true := L0.andThen (looks_mroIn X hm)
  unfold getAttr getAttrBy
  refine wpAny_bind (wpAny_mkText (wpAny_holding (wpAny_bind (L0.at (wpAny_bind (L1.at ?_))))))
  dsimp only
  rw [if_neg (by rw [show (Value.builtin "BaseException.__getattribute__" == Value.builtin "object.__getattribute__") = false from by decide +kernel]; simp)]
  unfold getAttrByItsOwn hookBefore
  rw [if_pos (show onTheHeap (.ref C) = true from rfl)]
  refine wpAny_bind (L2.at (wpAny_bind ?_))
  refine wpAny_attempt ?_
  refine wpAny_holding ?_
  unfold callGetattribute
  rw [if_neg (by cases expr <;> simp [onTheHeap])]
  unfold boundAndCalled
  refine wpAny_bind (wpAny_of_eq (FB.ga.bind _) ?_)
  show wpAny _ _ (call (.builtin "BaseException.__getattribute__") [.ref x, .str name t]) _ _ _
  have hk : builtinKind "BaseException.__getattribute__" = some .slot := by decide +kernel
  have hsp : splitId "BaseException.__getattribute__" = some ("BaseException", "__getattribute__") := by decide +kernel
  refine wpAny_call (codeAny_call_builtin FB.ga.plain PySem.F.entry_bexc_ga (@check_slot (model prog w) _ _ _ "BaseException.__getattribute__" "BaseException" "__getattribute__" (.ref x) [.str name t] [] _ hk hsp sub (PySem.F.args_bexc_ga (.ref x) (.str name t)) ?_))
  refine wpAny_bind (wpAny_pure (wpAny_bind (wpAny_pure (wpAny_bind (L0.at (wpAny_bind (L3.at ?_)))))))
  refine wpAny_pure ?_
  show wpAny _ _ (handedOut v) _ _ _
  rw [handedOut_of hh]
  exact wpAny_pure h
theorem get_excN {h₀ : Heap} {L dx t : Addr} {m : Str → Option Value} {news : Led} {tb cx : Value} {es : List DictEntry} {n : Nat} {attr : Option Value} (F : Fr h₀ L s.heap m) (X₀ : K.In h₀) (N : News h₀ L s.heap news) (hx : (x, excObjC C t (some dx) tb cx) ∈ news) (hd : (dx, dictOf es n) ∈ news)
    (hga : findIn K (.ref C) "__getattribute__" = some (some (.builtin "BaseException.__getattribute__"))) (hgt : findIn K (.ref C) "__getattr__" = some none) (hm : mroIn K C (.type "BaseException") = some true) (hq : hasDictIn K C = true) (ha : findIn K (.ref C) name = some attr) (hn : noGet K attr = true)
    (hl : getL name es = some (some v)) (hh : handedIn v = true) (h : Q v { s with toks := s.toks + 1 }) : wpAny (model prog w) A (getAttr (.ref x) name expr) Q E s :=
  get_exc (od := some (dictOf es n)) (X₀.keeps F.keep) ⟨(N _ hx).1, rfl, rfl, (N _ hd).1⟩ hga hgt hm (findObj_own hq ha hn (by rw [lookIn_dict]; exact hl)) hh h
end
-- part S0
noncomputable abbrev TK (w : World) : HeapKind pE w (List Str) := tupleKind (strKind pE w)
/-- a tuple of strings that stands in the tail or in the written part -/
noncomputable def KeyAt (w : World) (X : Led) (ks : List Str) (a : Addr) : Prop := ∃ o, TupKeyObj (strKind pE w) ks o ∧ ((a, o) ∈ X ∨ (KF w.params).lookup a = some o)
/-- a dict whose keys are such tuples -/
noncomputable def PatTab (w : World) (X : Led) (o : Obj) (xs : List (List Str × Addr × Value)) : Prop :=
  o.ExactDict ∧ ∃ es ep, o.data = .dict es ep ∧ es.toList = xs.map (entryOfKey (TK w)) ∧ (xs.map (·.1)).Nodup ∧ ∀ x ∈ xs, KeyAt w X x.1 x.2.1
theorem KeyAt.mono {w : World} {X Y : Led} {ks : List Str} {a : Addr} (h : ∀ q ∈ X, q ∈ Y) (k : KeyAt w X ks a) : KeyAt w Y ks a := let ⟨o, t, r⟩ := k; ⟨o, t, r.imp (h _) id⟩
theorem PatTab.mono {w : World} {X Y : Led} {o : Obj} {xs : List (List Str × Addr × Value)} (h : ∀ q ∈ X, q ∈ Y) (T : PatTab w X o xs) : PatTab w Y o xs := let ⟨c, es, ep, d, e, n, k⟩ := T; ⟨c, es, ep, d, e, n, fun x hx => (k x hx).mono h⟩
theorem PatTab.mono2 {w : World} {X Y : Led} {o : Obj} {xs : List (List Str × Addr × Value)} (T : PatTab w X o xs) (h : ∀ q ∈ X, q ∈ Y) : PatTab w Y o xs := T.mono h
theorem PatTab.ofEmpty {w : World} {X : Led} {o : Obj} {K' : Type} [DecidableEq K'] {knd' : KeyKind pE w K'} (hd : o.IsDictOf knd' []) : PatTab w X o [] := by
  obtain ⟨es, ep, hc, hdat, _, hp, _⟩ := hd
  have he : es.toList = [] := List.length_eq_zero_iff.mp hp.length
  exact ⟨hc, es, ep, hdat, he, List.nodup_nil, fun _ hx => by simp at hx⟩
/-- what stands under a key -/
noncomputable def pv (xs : List (List Str × Addr × Value)) (k : List Str) : Option Value := (atKey xs k).map (·.2)
section
variable {w : World} {A : Around} {E : Value → Shared → Prop} {s : Shared} {h₀ : Heap} {L dP a : Addr} {m : Str → Option Value} {news X : Led} {o : Obj} {xs : List (List Str × Addr × Value)} {ks : List Str}
theorem KeyAt.is {h : Heap} (N : News h₀ L h news) (X₀ : (KF w.params).In h) (hX : ∀ q ∈ X, q ∈ news) (k : KeyAt w X ks a) : (TK w).is h ks a := by
  obtain ⟨o, t, hm | hm⟩ := k
  · exact t.key (N _ (hX _ hm)).1
  · exact t.key (X₀ _ _ hm)
theorem PatTab.at {h : Heap} (N : News h₀ L h news) (X₀ : (KF w.params).In h) (hX : ∀ q ∈ X, q ∈ news) (hm : (dP, o) ∈ news) (T : PatTab w X o xs) : h.DictOfH (TK w) dP xs :=
  let ⟨c, es, ep, d, e, n, k⟩ := T; ⟨o, es, ep, (N _ hm).1, c, d, e, fun x hx => (k x hx).is N X₀ hX, n⟩
theorem PatTab.typeIs (N : News h₀ L s.heap news) (hm : (dP, o) ∈ news) (T : PatTab w X o xs) : s.TypeIs (.ref dP) "dict" := let ⟨c, _⟩ := T; ⟨o, (N _ hm).1, c.1⟩
theorem pat_method {pl : Sem Bool} {Q : Value × List Value → Shared → Prop} (N : News h₀ L s.heap news) (hm : (dP, o) ∈ news) (T : PatTab w X o xs) (h : Q (.builtin "dict.get", [.ref dP]) s) :
    wpAny (model pE w) A (getMethod (.ref dP) "get" pl) Q E s :=
  getMethod_builtin (T.typeIs N hm) PySem.F.plainAttrs_dict PySem.F.slot_dict_get PySem.F.type_dict_get (fun b e => by cases e; exact ⟨o, (N _ hm).1, T.1.2.1⟩) h
variable (hu : A.units + 1 < cLine) (F : Fr h₀ L s.heap m) (N : News h₀ L s.heap news) (X₀ : (KF w.params).In h₀) (hX : ∀ q ∈ X, q ∈ news) (hm : (dP, o) ∈ news) (T : PatTab w X o xs) (hk : KeyAt w news ks a)
include hu F N X₀ hX hm T hk
theorem pat_get1 {Q : Value → Shared → Prop} (lo : (dP == sysModules) = false) (h : Q (((atKey xs ks).map (·.2)).getD .none) { s with toks := s.toks + (ks.length + 1) }) :
    wpAny (model pE w) A (call (.builtin "dict.get") [.ref dP, .ref a]) Q E s :=
  call_meetsIn PySem.F.slot_dict_get (T.typeIs N hm) PySem.F.entry_dict_get (PySem.F.args_dict_get_2 _ _) (meetsH_dict_get (TK w) dP a lo) ⟨tupleKind_room_in1 hu, ks, xs, hk.is N (X₀.keeps F.keep) (fun _ h => h), T.at N (X₀.keeps F.keep) hX hm, h⟩
theorem pat_get2 {dflt : Value} {Q : Value → Shared → Prop} (lo : (dP == sysModules) = false) (h : Q (((atKey xs ks).map (·.2)).getD dflt) { s with toks := s.toks + (ks.length + 1) }) :
    wpAny (model pE w) A (call (.builtin "dict.get") [.ref dP, .ref a, dflt]) Q E s :=
  call_meetsIn PySem.F.slot_dict_get (T.typeIs N hm) PySem.F.entry_dict_get (PySem.F.args_dict_get_3 _ _ _) (meetsH_dict_get_default (TK w) dP a lo dflt) ⟨tupleKind_room_in1 hu, ks, xs, hk.is N (X₀.keeps F.keep) (fun _ h => h), T.at N (X₀.keeps F.keep) hX hm, h⟩
theorem pat_notin {Q : Value → Shared → Prop} (lo : (dP == sysModules) = false) (h : Q (.bool (!(atKey xs ks).isSome)) { s with toks := s.toks + (ks.length + 1) }) : wpAny (model pE w) A (compareOp .NotIn (.ref a) (.ref dP)) Q E s :=
  wpAny_notIn_heap (knd := TK w) (tupleKind_room_in1 hu) (hk.is N (X₀.keeps F.keep) (fun _ h => h)) lo (T.at N (X₀.keeps F.keep) hX hm) h
theorem pat_notin_hit {v : Value} {Q : Value → Shared → Prop} (lo : (dP == sysModules) = false) (hv : pv xs ks = some v) (h : Q (.bool false) { s with toks := s.toks + (ks.length + 1) }) : wpAny (model pE w) A (compareOp .NotIn (.ref a) (.ref dP)) Q E s := by
  refine pat_notin hu F N X₀ hX hm T hk lo ?_
  obtain ⟨p, hp2, rfl⟩ := Option.map_eq_some_iff.mp hv
  rw [hp2]; exact h
theorem pat_notin_miss {Q : Value → Shared → Prop} (lo : (dP == sysModules) = false) (hv : pv xs ks = none) (h : Q (.bool true) { s with toks := s.toks + (ks.length + 1) }) : wpAny (model pE w) A (compareOp .NotIn (.ref a) (.ref dP)) Q E s := by
  refine pat_notin hu F N X₀ hX hm T hk lo ?_
  rw [Option.map_eq_none_iff.mp hv]; exact h
theorem pat_getItem {v : Value} {Q : Value → Shared → Prop} (hp : (atKey xs ks).map (·.2) = some v) (h : Q v { s with toks := s.toks + (ks.length + 1) }) : wpAny (model pE w) A (getItem (.ref dP) (.ref a)) Q E s := by
  obtain ⟨p, hp2, rfl⟩ := Option.map_eq_some_iff.mp hp
  exact wpAny_getItem_heap (knd := TK w) (tupleKind_room_in1 hu) (hk.is N (X₀.keeps F.keep) (fun _ h => h)) (T.at N (X₀.keeps F.keep) hX hm) hp2 h
theorem pat_sub {v : Value} {value slice : PySem.Expr} {Q : Value → Shared → Prop} (hp : pv xs ks = some v) (h : Q v { s with toks := s.toks + (ks.length + 1) })
    (hs : subscripted slice false (.ref dP) (.ref a) = operate [.ref dP, .ref a] (getItem (.ref dP) (.ref a))) (hg : ∀ r, letTemporaryGo value (.ref dP) r = pure ()) : wpAny (model pE w) A (subscriptTail value slice (.ref dP) (.ref a)) Q E s :=
  subscriptTail_builtin (T.typeIs N hm) slot_dict_getitem.lookup (pat_getItem hu F N X₀ hX hm T hk hp h) hs hg
theorem pat_setItem {v : Value} {g : Obj → Led} {Q : Unit → Shared → Prop} (hk2 : KeyAt w X ks a) (U : UpdF dP o news g) (hz : xs.length ≤ 1000)
    (h : ∀ h' o', Fr h₀ L h' m → News h₀ L h' (g o') → PatTab w X o' (storedH xs ks a v) → Q () { s with heap := h', toks := s.toks + (ks.length + 1) }) : wpAny (model pE w) A (setItem (.ref dP) (.ref a) v) Q E s := by
  have X' := X₀.keeps F.keep
  obtain ⟨pre, post, e, hg, h1, h2⟩ := U.split
  refine wpAny_setItem_heap (knd := TK w) (tupleKind_room_in1 hu) (hk.is N X' (fun _ h => h)) (T.at N X' hX hm) (fun h' hm' hs => ?_) (by rw [sizeLine_eq]; omega)
  obtain ⟨o', es', ep', ho', hc', hd', he', _, hn'⟩ := hm'
  refine h h' o' (F.change hs (N _ hm).2.1 (N.fresh hm)) (hg o' ▸ fun q hq => ?_) ⟨hc', es', ep', hd', he', hn', fun x hx => ?_⟩
  · have D := N _ hm
    rcases List.mem_append.mp hq with hq | hq
    · have := N q (e ▸ List.mem_append_left _ hq)
      exact ⟨(hs.2 q.1 (h1 q hq)).trans this.1, this.2⟩
    · rcases List.mem_cons.mp hq with rfl | hq
      · exact ⟨ho', D.2⟩
      · have := N q (e ▸ List.mem_append_right _ (.tail _ hq))
        exact ⟨(hs.2 q.1 (h2 q hq)).trans this.1, this.2⟩
  · obtain ⟨_, es, ep, _, _, _, kk⟩ := T
    rcases mem_storedH hx with ⟨y, hy, e1, e2⟩ | ⟨e1, e2⟩
    · rw [e1, e2]; exact kk y hy
    · rw [e1, e2]; exact hk2
end
theorem pv_cons (x : List Str × Addr × Value) (xs : List (List Str × Addr × Value)) (k : List Str) : pv (x :: xs) k = if x.1 = k then some x.2.2 else pv xs k := by
  unfold pv atKey
  rw [List.find?_cons]
  by_cases h : x.1 = k <;> simp [h]
theorem pv_put (xs : List (List Str × Addr × Value)) (k k' : List Str) (v : Value) : pv (xs.map (putAt k v)) k' = if k = k' then (pv xs k').map (fun _ => v) else pv xs k' := by
  induction xs with
  | nil => simp [pv, atKey]
  | cons x xs ih =>
    rw [List.map_cons, pv_cons, pv_cons, ih]
    unfold putAt
    by_cases h : x.1 = k
    · subst h
      by_cases h' : x.1 = k' <;> simp [h']
    · by_cases h' : x.1 = k'
      · subst h'
        simp [h, Ne.symm h]
      · simp [h, h']
theorem pv_app (xs : List (List Str × Addr × Value)) (k k' : List Str) (a : Addr) (v : Value) : pv (xs ++ [(k, a, v)]) k' = (pv xs k').or (if k = k' then some v else none) := by
  induction xs with
  | nil => rw [List.nil_append, pv_cons]; simp [pv, atKey]
  | cons x xs ih =>
    rw [List.cons_append, pv_cons, pv_cons, ih]
    by_cases h : x.1 = k' <;> simp [h]
theorem pv_stored (xs : List (List Str × Addr × Value)) (k k' : List Str) (a : Addr) (v : Value) : pv (storedH xs k a v) k' = if k = k' then some v else pv xs k' := by
  unfold storedH
  split
  · rename_i h
    rw [pv_put]
    by_cases e : k = k'
    · subst e
      rw [if_pos rfl, if_pos rfl]
      unfold pv
      cases q : atKey xs k with
      | none => rw [q] at h; cases h
      | some p => rfl
    · rw [if_neg e, if_neg e]
  · rename_i h
    rw [pv_app]
    by_cases e : k = k'
    · subst e
      have : pv xs k = none := by
        unfold pv
        cases q : atKey xs k with
        | none => rfl
        | some p => rw [q] at h; exact absurd rfl h
      rw [this]; simp
    · simp [e]
noncomputable abbrev kLast : List Str := [Str.ofString "", Str.ofString "last"]
noncomputable abbrev kSigns : List Str := [Str.ofString "", Str.ofString "signs"]
theorem key_of {w : World} {X : Led} {a : Addr} {x y : Str} {t1 t2 n : Nat} {o : Obj} (ho : (KF w.params).lookup a = some o) (hc : o.cls = .type "tuple") (hd : o.data = .seq #[.str x t1, .str y t2] n) : KeyAt w X [x, y] a :=
  ⟨o, ⟨hc, _, n, hd, .cons (strKind_is _ _ _ _) (.cons (strKind_is _ _ _ _) .nil)⟩, .inr ho⟩
theorem key_tup {w : World} {X : Led} {a : Addr} {x y : Str} {t1 t2 : Nat} (hm : (a, tup2 (.str x t1) (.str y t2)) ∈ X) : KeyAt w X [x, y] a :=
  ⟨_, TupKeyObj.made (vs := [.str x t1, .str y t2]) (.cons (strKind_is _ _ _ _) (.cons (strKind_is _ _ _ _) .nil)), .inl hm⟩
theorem key_last {w : World} {X : Led} : KeyAt w X kLast 175 := key_of (o := o175 w.params) (by kernel_rfl) rfl rfl
theorem key_signs {w : World} {X : Led} : KeyAt w X kSigns 913 := key_of (o := o913 w.params) (by kernel_rfl) rfl rfl
/-- the run: what it bears -/
noncomputable abbrev runObj (d : Addr) : Obj := instObj 881 d
noncomputable abbrev runDict (w : World) (tk : Nat → Nat) (ov : Nat → Value) (lim sv fr : Addr) (mv : Value) (dP : Addr) (st : Int) (u : Nat) : Obj :=
  dictOf [En w "heap" (tk 0) (ov 0), En w "counter" (tk 1) (ov 1), En w "stash" (tk 2) (ov 2), En w "limits" (tk 3) (.ref lim), En w "nodes" (tk 4) (ov 4), En w "lvs" (tk 5) (ov 5), En w "statements" (tk 6) (ov 6), En w "funcs" (tk 7) (ov 7), En w "operators" (tk 8) (ov 8), En w "out" (tk 9) (ov 9), En w "err" (tk 10) (ov 10), En w "saves" (tk 11) (.ref sv), En w "frames" (tk 12) (.ref fr), En w "match" (tk 13) mv, En w "patterns" (tk 14) (.ref dP), En w "steps" (tk 15) (.int st u), En w "methods" (tk 16) (ov 16), En w "call_code" (tk 17) (ov 17), En w "compile_text" (tk 18) (ov 18)] 19
noncomputable abbrev limDict (w : World) (tk : Nat → Nat) (ov : Nat → Value) (u : Nat) : Obj :=
  dictOf [En w "width" (tk 0) (ov 0), En w "depth" (tk 1) (ov 1), En w "steps" (tk 2) (ov 2), En w "text" (tk 3) (.int 100000 u), En w "items" (tk 4) (ov 4)] 5
/-- the run's own ledger -/
noncomputable abbrev runLed (w : World) (tk tl : Nat → Nat) (ov ol : Nat → Value) (r d lim ld sv fr dP : Addr) (mv : Value) (st : Int) (u ul zf : Nat) (oP : Obj) (X : Led) : Led :=
  (r, runObj d) :: (d, runDict w tk ov lim sv fr mv dP st u) :: (dP, oP) :: (lim, instObj 1053 ld) :: (ld, limDict w tl ol ul) :: (fr, listOf #[] zf) :: X
theorem apart_none {X : Led} : Apart X [] := fun _ _ _ h => nomatch h
theorem apart_tailc {X foot : Led} {a : Addr} {o : Obj} (h : AllNe a X) (k : Apart X foot) : Apart X ((a, o) :: foot) := fun q hq r hr => by
  rcases List.mem_cons.mp hr with rfl | hr
  · exact (allNe_at h q hq).symm
  · exact k q hq r hr
local macro_rules | `(tactic| k_keys) => `(tactic| k_extra "n k_keys")
theorem rowsS0_1 : True := by
  k_with "n kwd_inv" => (first | (((case kB => k_asm); (case kF => k_asm); (case kX => k_asm); (case kN => k_asm); (case kS => repeat' (first | exact Take.all | exact Take.nil | exact Sel.head | refine' Take.cons ?_ ?_ | refine' Sel.tail ?_)); (case kR => first | exact apart_none | repeat' (first | exact apart_nil | exact apart_none | (refine' apart_tailc ?n9 ?_; (case n9 => assumption)) | exact allNe_nil | refine' apart_cons ?_ ?_ | refine' allNe_cons ?_ ?_ | k_ne | (refine' tail_apart ?N9 ?X9 ?s9 ?b9; (case N9 => assumption); (case X9 => assumption); (case s9 => repeat' (first | exact sub_refl | refine' sub_cons ?_)); (case b9 => repeat' (first | exact both_nil | (refine' both_cons ?m9 ?c9 ?_; (case m9 => k_mem); (case c9 => (simp; done)))))))); (case kT => k_asm); (case kK => first | exact rfl | assumption); (case kD => ktr_room); (case kU => ktr_units))) | fail "row")
  k_with "m getMethod ref" => (first | (k_here; (with_reducible show wpAny _ _ (getMethod (Value.ref _) (PySem.Str.ofString "get") _) _ _ _); k_dflt (refine' pat_method ?k1 ?k2 ?k3 ?_; (case k3 => assumption); (case k1 => assumption); (case k2 => k_mem))) | fail "row")
  k_with "n k_keys" => (first | (first | exact key_last | exact key_signs | exact key_tup (by k_mem)) | fail "row")
  k_with "m call builtin:dict.get" => (first | (k_here; (try dsimp only [List.cons_append, List.nil_append]); (with_reducible show wpAny _ _ (call (Value.builtin "dict.get") [Value.ref _, Value.ref _]) _ _ _); k_dflt (refine' pat_get1 ?ku ?k1 ?k2 ?k3 ?kX ?k4 ?k5 ?k6 ?k7 ?_; (case k5 => assumption); (case ku => ktr_units); (case k1 => k_asm); (case k2 => k_asm); (case k3 => k_asm); (case kX => kt_eqs); (case k4 => k_mem); (case k6 => k_keys); (case k7 => assumption))) | fail "row")
  k_with "m call builtin:dict.get" => (first | (k_here; (try dsimp only [List.cons_append, List.nil_append]); (with_reducible show wpAny _ _ (call (Value.builtin "dict.get") [Value.ref _, Value.ref _, _]) _ _ _); k_dflt (refine' pat_get2 ?ku ?k1 ?k2 ?k3 ?kX ?k4 ?k5 ?k6 ?k7 ?_; (case k5 => assumption); (case ku => ktr_units); (case k1 => k_asm); (case k2 => k_asm); (case k3 => k_asm); (case kX => kt_eqs); (case k4 => k_mem); (case k6 => k_keys); (case k7 => assumption))) | fail "row")
  trivial
theorem last_spec {w : World} {tk tl : Nat → Nat} {ov ol : Nat → Value} {r d lim ld sv fr dP : Addr} {mv : Value} {st : Int} {u ul zf : Nat} {oP : Obj} {X : Led} {xs : List (List Str × Addr × Value)} {v0 : Value} (T0 : PatTab w X oP xs) (lo : (dP == sysModules) = false) (hl : (pv xs kLast).getD .none = v0) :
    Spec w 182 [.ref r] (runLed w tk tl ov ol r d lim ld sv fr dP mv st u ul zf oP X) 4 60 (fun v l => v = v0 ∧ l = runLed w tk tl ov ol r d lim ld sv fr dP mv st u ul zf oP X) := by
  intro mean mg mb dp un gd cn cs a ccd cl outer A₀ base h₀ L m s Q E B F X0 N T hk hd hu ret
  simp only [runLed, List.cons_append, List.nil_append] at N ret ⊢
  ktr_unf
  k_steps
  k_dflt (refine' spec_fin ret (by assumption) (by assumption) (by assumption) (by assumption) (by assumption) ⟨hl, rfl⟩ ?_; kt_eqs)
theorem rowsS0_2 : True := by
  k_with "m call ref" => (first | (k_here; (with_reducible show wpAny _ _ (call (Value.ref 182) _) _ _ _); k_dflt (refine' Spec.tk (last_spec ?t0 ?lo ?hl) ?kB ?kF ?kX ?kN ?kS ?kR ?kT ?kK ?kD ?kU ?_; kwd_inv; (case t0 => exact PatTab.mono2 (by assumption) (by kt_eqs)); (case lo => assumption); (case hl => first | assumption | exact rfl)); k_dflt (rintro v' l' h' tk' ⟨e1', e2'⟩ F' N' ne'); subst e1'; subst e2'; (simp only [runLed, List.cons_append, List.nil_append, List.append_nil] at N'); clear ne'; (try dsimp only); (try k_sweep)) | fail "row")
  trivial
-- part S1
theorem rowsS1_1 : True := by
  k_with "m compareOp Eq ref ref" => (first | (k_here; (with_reducible show wpAny _ _ (compareOp CmpOp.Eq (Value.ref _) (Value.ref _)) _ _ _); k_dflt (refine' eq_dataH (by ke_read) (by ke_read) (by ke_shaped) (by ke_shaped) ?ku ?_; (case ku => ktr_units)); ke_norm) | fail "row")
  trivial
theorem check_spec {w : World} {tk tl : Nat → Nat} {ov ol : Nat → Value} {r d lim ld sv fr dP : Addr} {mv : Value} {st : Int} {u ul zf tx : Nat} {oP : Obj} {x : Str} {X : Led} :
    Spec w 912 [.ref r, .str x tx] (runLed w tk tl ov ol r d lim ld sv fr dP mv st u ul zf oP X) 4 100 (fun v l => v = .none ∧ l = runLed w tk tl ov ol r d lim ld sv fr dP mv st u ul zf oP X) := by
  intro mean mg mb dp un gd cn cs a ccd cl outer A₀ base h₀ L m s Q E B F X0 N T hk hd hu ret
  simp only [runLed, List.cons_append, List.nil_append] at N ret ⊢
  ktr_unf
  k_steps
  k_dflt (refine' spec_fin ret (by assumption) (by assumption) (by assumption) (by assumption) (by assumption) ⟨rfl, rfl⟩ ?_; kt_eqs)
theorem rowsS1_2 : True := by
  k_with "m call ref" => (first | (k_here; (with_reducible show wpAny _ _ (call (Value.ref 912) _) _ _ _); k_dflt (refine' Spec.tk (check_spec) ?kB ?kF ?kX ?kN ?kS ?kR ?kT ?kK ?kD ?kU ?_; kwd_inv); k_dflt (rintro v' l' h' tk' ⟨e1', e2'⟩ F' N' ne'); subst e1'; subst e2'; (simp only [runLed, List.cons_append, List.nil_append, List.append_nil] at N'); clear ne'; (try dsimp only); (try k_sweep)) | fail "row")
  trivial
/-- how many signs are kept -/
noncomputable def KeptIs (xs : List (List Str × Addr × Value)) (kept : Int) : Prop := (pv xs kSigns = none ∧ kept = 0) ∨ ∃ t, pv xs kSigns = some (.int kept t)
theorem storedH_le {xs : List (List Str × Addr × Value)} {k : List Str} {a : Addr} {v : Value} {n : Nat} (h : xs.length ≤ n) : (storedH xs k a v).length ≤ n + 1 := by
  unfold storedH
  split
  · rw [List.length_map]; omega
  · rw [List.length_append]; exact Nat.succ_le_succ h
theorem pat_kept {w : World} {A : Around} {E : Value → Shared → Prop} {s : Shared} {h₀ : Heap} {L dP a : Addr} {m : Str → Option Value} {news X : Led} {o : Obj} {xs : List (List Str × Addr × Value)} {kept : Int} {u : Nat} {Q : Value → Shared → Prop}
    (hu : A.units + 1 < cLine) (F : Fr h₀ L s.heap m) (N : News h₀ L s.heap news) (X₀ : (KF w.params).In h₀) (hX : ∀ q ∈ X, q ∈ news) (hm : (dP, o) ∈ news) (T : PatTab w X o xs) (hk : KeyAt w news kSigns a) (lo : (dP == sysModules) = false) (hK : KeptIs xs kept)
    (h : ∀ t, Q (.int kept t) { s with toks := s.toks + 3 }) : wpAny (model pE w) A (call (.builtin "dict.get") [.ref dP, .ref a, .int 0 u]) Q E s := by
  refine pat_get2 hu F N X₀ hX hm T hk lo ?_
  show Q ((pv xs kSigns).getD _) _
  rcases hK with ⟨e, rfl⟩ | ⟨t, e⟩
  · rw [e]; exact h _
  · rw [e]; exact h _
/-- the run's dicts stand apart -/
noncomputable def RunNe (r d lim ld fr dP : Addr) (X : Led) : Prop := AllNe d X ∧ AllNe dP X ∧ @Ne Nat dP r ∧ @Ne Nat dP d ∧ @Ne Nat dP lim ∧ @Ne Nat dP ld ∧ @Ne Nat dP fr ∧ @Ne Nat d ld
theorem rowsS1_3 : True := by
  k_with "n k_all" => (first | ((exact fun q hq => Ne.symm (allNe_at (by assumption) q hq))) | fail "row")
  k_with "m setItem ref ref" => (first | (k_here; k_dflt (refine' pat_setItem ?ku ?k1 ?k2 ?k3 ?kX ?k4 ?k5 ?k6 ?k66 ?k7 ?k10 ?_; (case k5 => assumption); (case ku => ktr_units); (case k1 => k_asm); (case k2 => k_asm); (case k3 => k_asm); (case kX => kt_eqs); (case k4 => k_mem); (case k6 => k_keys); (case k66 => first | exact key_last | exact key_signs | exact key_tup (.head _)); (case k7 => k_updF); (case k10 => first | omega | exact storedH_le (by omega))); intro h' o' F' N' T'; (try dsimp only at N'); (try k_sweep)) | fail "row")
  k_with "m call builtin:dict.get" => (first | (k_here; (try dsimp only [List.cons_append, List.nil_append]); (with_reducible show wpAny _ _ (call (Value.builtin "dict.get") [Value.ref _, Value.ref _, Value.int 0 _]) _ _ _); k_dflt (refine' pat_kept ?ku ?k1 ?k2 ?k3 ?kX ?k4 ?k5 ?k6 ?k7 ?k8 ?_; (case k5 => assumption); (case k8 => assumption); (case ku => ktr_units); (case k1 => k_asm); (case k2 => k_asm); (case k3 => k_asm); (case kX => kt_eqs); (case k4 => k_mem); (case k6 => k_keys); (case k7 => assumption)); intro t') | fail "row")
  trivial
set_option maxHeartbeats 4000000 in
theorem keep_spec {w : World} {tk tl : Nat → Nat} {ov ol : Nat → Value} {r d lim ld sv fr dP aK x : Addr} {mv : Value} {st kept : Int} {u ul zf t1 t2 : Nat} {oP : Obj} {px fx : Str} {X : Led} {xs : List (List Str × Addr × Value)} (T0 : PatTab w X oP xs) (lo : (dP == sysModules) = false)
    (hK : KeptIs xs kept) (hk1 : kept ≤ 1000) (hpx : px.length ≤ 3) (hz : xs.length ≤ 900) (hne : RunNe r d lim ld fr dP X) (hP : @Ne Nat dP aK) :
    Spec w 932 [.ref r, .ref aK, .ref x] ((aK, tup2 (.str px t1) (.str fx t2)) :: runLed w tk tl ov ol r d lim ld sv fr dP mv st u ul zf oP X) 4 100 (fun v l => v = .none ∧ ∃ st' u' k' oP', l = (aK, tup2 (.str px t1) (.str fx t2)) :: runLed w tk tl ov ol r d lim ld sv fr dP mv st' u' ul zf oP' X ∧ PatTab w ((aK, tup2 (.str px t1) (.str fx t2)) :: X) oP' (storedH (storedH xs kSigns 913 (.int (kept + px.length) k')) [px, fx] aK (.ref x))) := by
  intro mean mg mb dp un gd cn cs a ccd cl outer A₀ base h₀ L m s Q E B F X0 N T hk hd hu ret
  simp only [runLed, List.cons_append, List.nil_append] at N ret ⊢
  obtain ⟨n1, n2, n3, n4, n5, n6, n7, n8⟩ := hne
  have T1 := PatTab.mono (Y := (aK, tup2 (.str px t1) (.str fx t2)) :: X) (sub_cons sub_refl) T0
  clear T0
  ktr_unf
  k_steps
  k_dflt (refine' spec_fin ret (by assumption) (by assumption) (by assumption) (by assumption) (by assumption) ⟨rfl, _, _, _, _, rfl, ‹PatTab _ _ _ (storedH (storedH _ _ _ _) _ _ _)›⟩ ?_; kt_eqs)
theorem rowsS1_4 : True := by
  k_with "m call ref" => (first | (k_here; (with_reducible show wpAny _ _ (call (Value.ref 932) _) _ _ _); k_dflt (refine' Spec.tk (keep_spec ?t0 ?lo ?hK ?k1 ?hx ?hz ?hn ?hP) ?kB ?kF ?kX ?kN ?kS ?kR ?kT ?kK ?kD ?kU ?_; kwd_inv; (case t0 => exact PatTab.mono2 (by assumption) (by kt_eqs)); (case lo => assumption); (case hK => assumption); (case k1 => tb_rel); (case hx => tb_rel); (case hz => tb_rel); (case hn => refine ⟨?_, ?_, ?_, ?_, ?_, ?_, ?_, ?_⟩ <;> repeat' (first | assumption | exact allNe_nil | refine' allNe_cons ?_ ?_ | k_ne)); (case hP => k_ne)); k_dflt (rintro v' l' h' tk' ⟨e1', _, _, _, oP', e2', T'⟩ F' N' ne'); subst e1'; subst e2'; (simp only [runLed, List.cons_append, List.nil_append, List.append_nil] at N'); clear ne'; (try dsimp only); (try k_sweep)) | fail "row")
  trivial
-- part S2
theorem rowsS2_1 : True := by
  k_with "m compareOp NotIn ref ref" => (first | (k_here; k_dflt (refine' pat_notin_hit ?ku ?k1 ?k2 ?k3 ?kX ?k4 ?k5 ?k6 ?k7 ?k8 ?_; (case k5 => assumption); (case ku => ktr_units); (case k1 => k_asm); (case k2 => k_asm); (case k3 => k_asm); (case kX => kt_eqs); (case k4 => k_mem); (case k6 => k_keys); (case k7 => assumption); (case k8 => assumption))) | fail "row")
  k_with "m compareOp NotIn ref ref" => (first | (k_here; k_dflt (refine' pat_notin_miss ?ku ?k1 ?k2 ?k3 ?kX ?k4 ?k5 ?k6 ?k7 ?k8 ?_; (case k5 => assumption); (case ku => ktr_units); (case k1 => k_asm); (case k2 => k_asm); (case k3 => k_asm); (case kX => kt_eqs); (case k4 => k_mem); (case k6 => k_keys); (case k7 => assumption); (case k8 => assumption))) | fail "row")
  k_with "m subscriptTail" => (first | (k_here; (with_reducible show wpAny _ _ (subscriptTail _ _ (Value.ref _) (Value.ref _)) _ _ _); k_dflt (refine' pat_sub ?ku ?k1 ?k2 ?k3 ?kX ?k4 ?k5 ?k6 ?k7 ?_ ?k8 ?k9; (case k5 => assumption); (case ku => ktr_units); (case k1 => k_asm); (case k2 => k_asm); (case k3 => k_asm); (case kX => kt_eqs); (case k4 => k_mem); (case k6 => k_keys); (case k7 => first | assumption | (rw [pv_stored, if_pos rfl])); (case k8 => with_unfolding_all rfl); (case k9 => intro _; with_unfolding_all rfl))) | fail "row")
  trivial
/-- a program asked for a second time -/
theorem for_hit {w : World} {tk tl : Nat → Nat} {ov ol : Nat → Value} {r d lim ld sv fr dP : Addr} {mv v0 : Value} {st : Int} {u ul zf tx tf : Nat} {oP : Obj} {px fl : Str} {b : Bool} {X : Led} {xs : List (List Str × Addr × Value)} (T0 : PatTab w X oP xs) (lo : (dP == sysModules) = false)
    (hf : ownOf fl b) (hv : pv xs [px, kept b] = some v0) (hne : RunNe r d lim ld fr dP X) :
    Spec w 925 [.ref r, .str px tx, .str fl tf] (runLed w tk tl ov ol r d lim ld sv fr dP mv st u ul zf oP X) 60 500 (fun v l => v = v0 ∧ ∃ aK t1 t2, l = (aK, tup2 (.str px t1) (.str (kept b) t2)) :: runLed w tk tl ov ol r d lim ld sv fr dP mv st u ul zf oP X) := by
  intro mean mg mb dp un gd cn cs a ccd cl outer A₀ base h₀ L m s Q E B F X0 N T hk hd hu ret
  simp only [runLed, List.cons_append, List.nil_append] at N ret ⊢
  obtain ⟨n1, n2, n3, n4, n5, n6, n7, n8⟩ := hne
  ktr_unf
  k_steps
  k_dflt (refine' spec_fin ret (by assumption) (by assumption) (by assumption) (by assumption) (by assumption) ⟨rfl, _, _, _, rfl⟩ ?_; kt_eqs)
-- part S3
theorem sub_appl {X Y : Led} : ∀ q ∈ X, q ∈ X ++ Y := fun _ h => List.mem_append_left _ h
theorem sub_appr {X Y : Led} : ∀ q ∈ Y, q ∈ X ++ Y := fun _ h => List.mem_append_right _ h
theorem allNe_app {a : Addr} {X Y : Led} (h : AllNe a X) (k : AllNe a Y) : AllNe a (X ++ Y) := allNe_of fun q hq => (List.mem_append.mp hq).elim (allNe_at h q) (allNe_at k q)
theorem tail_all {h₀ h : Heap} {L a : Addr} {o : Obj} {X l : Led} (N : News h₀ L h l) (hX : TupsIn X) (sub : ∀ q ∈ X, q ∈ l) (hm : (a, o) ∈ l) (hc : o.cls ≠ .type "tuple") : AllNe a X := allNe_of fun q hq => Ne.symm (tail_ne N hX sub hm hc q hq)
theorem rowsS3_1 : True := by
  k_with "n kt_eqs" => (first | (repeat' (first | exact List.forall_mem_nil _ | exact sub_refl | exact sub_appl | exact sub_appr | refine' List.forall_mem_cons.mpr ⟨?_, ?_⟩ | k_mem | refine' sub_cons ?_)) | fail "row")
  k_with "m call ref" => (first | (k_here; (with_reducible show wpAny _ _ (call (Value.ref 843) _) _ _ _); k_dflt (refine' Spec.tkX (compile_all ?hp ?hf) ?kB ?kF ?kX ?kN ?kS ?kR ?kT ?kK ?kD ?kU ?_; (case hp => assumption); (case hf => assumption); kwd_inv); k_dflt (rintro v' l' X' h' tk' hX' ⟨x', d', rl', e', nm', o', vs', _, _, _, _, _, _, _, _, _, _, e1', e2', hS', hD', hY'⟩ F' N' ne'); subst e1'; subst e2'; (simp only [List.cons_append, List.nil_append] at N'); (simp only [AllApart, AllNe, and_true] at ne'); (repeat (rename (_ ∧ _) => hcj9; rcases hcj9 with ⟨hcj8, hcj7⟩)); (try dsimp only); (try k_sweep)) | fail "row")
  k_with "m call ref" => (first | (k_here; (with_reducible show wpAny _ _ (call (Value.ref 932) _) _ _ _); k_dflt (refine' Spec.tk (keep_spec ?t0 ?lo ?hK ?k1 ?hx ?hz ?hn ?hP) ?kB ?kF ?kX ?kN ?kS ?kR ?kT ?kK ?kD ?kU ?_; kwd_inv; (case t0 => exact PatTab.mono2 (by assumption) (by kt_eqs)); (case lo => assumption); (case hK => assumption); (case k1 => tb_rel); (case hx => tb_rel); (case hz => tb_rel); (case hn => refine ⟨?_, ?_, ?_, ?_, ?_, ?_, ?_, ?_⟩ <;> repeat' (first | assumption | exact allNe_nil | exact allNe_app (by assumption) (tail_all (by assumption) (by assumption) (by kt_eqs) (by k_mem) (by first | (simp; done) | (rw [‹PatTab _ _ _ _›.1.1]; simp; done))) | refine' allNe_cons ?_ ?_ | k_ne)); (case hP => k_ne)); k_dflt (rintro v' l' h' tk' ⟨e1', _, _, _, oP', e2', T'⟩ F' N' ne'); subst e1'; subst e2'; (simp only [runLed, List.cons_append, List.nil_append, List.append_nil] at N'); clear ne'; (try dsimp only); (try k_sweep)) | fail "row")
  trivial
theorem PatTab.drop {w : World} {X : Led} {a : Addr} {ob o : Obj} {xs : List (List Str × Addr × Value)} (T : PatTab w ((a, ob) :: X) o xs) (hc : ob.cls ≠ .type "tuple") : PatTab w X o xs := by
  obtain ⟨c, es, ep, d, e, n, k⟩ := T
  refine ⟨c, es, ep, d, e, n, fun x hx => ?_⟩
  obtain ⟨ok, t, hm | hm⟩ := k x hx
  · rcases List.mem_cons.mp hm with q | q
    · injection q with _ q2
      subst q2
      exact absurd t.1 hc
    · exact ⟨ok, t, .inl q⟩
  · exact ⟨ok, t, .inr hm⟩
theorem PatTab.drop5 {w : World} {Y : Led} {p0 p1 p2 p3 p4 : Addr × Obj} {nm : Addr} {ob o : Obj} {xs : List (List Str × Addr × Value)} (T : PatTab w (p0 :: p1 :: p2 :: p3 :: p4 :: (nm, ob) :: Y) o xs) (hc : ob.IsDictOf (strKind pE w) []) : PatTab w (p0 :: p1 :: p2 :: p3 :: p4 :: Y) o xs := by
  refine PatTab.drop (a := nm) (ob := ob) (T.mono fun q hq => ?_) ?_
  · simp only [List.mem_cons] at hq ⊢
    rcases hq with h | h | h | h | h | h | h <;> simp [h]
  · obtain ⟨_, _, c, _⟩ := hc
    rw [c.1]
    decide
/-- the objects of a program, but for the dict of its names -/
noncomputable abbrev progLed (w : World) (x d rl e nm : Addr) (vs : List Value) (ta tb tc td : Nat) (gr : Int) (tg : Nat) (reg : Int) (tr z ze : Nat) (X : Led) : Led :=
  (x, progObj d) :: (d, progDict w ta tb tc td rl gr tg reg tr nm) :: (rl, listOf (vs ++ [Value.ref e]).toArray z) :: (e, tupObj [.str (Str.ofString "end") ze]) :: X
/-- what a new program brings -/
inductive NewP (w : World) (tk tl : Nat → Nat) (ov ol : Nat → Value) (r d lim ld sv fr dP : Addr) (mv : Value) (ul zf : Nat) (px : Str) (b : Bool) (cs' : List Str) (kept0 : Int) (xs : List (List Str × Addr × Value)) (v : Value) (l X X1 : Led) : Prop
  | mk (x : Addr) (d' : Addr) (rl : Addr) (e : Addr) (nm : Addr) (o : Obj) (vs : List Value) (ta : Nat) (tb : Nat) (tc : Nat) (td : Nat) (gr : Int) (tg : Nat) (reg : Int) (tr : Nat) (z : Nat) (ze : Nat) (aK : Addr) (t1 : Nat) (t2 : Nat) (st' : Int) (u' : Nat) (k' : Nat) (oP' : Obj) : (v = .ref x) → (TupsIn X1) → (Signs b X1 cs' vs) → (o.IsDictOf (strKind pE w) []) → ((nm == sysModules) = false) → (l = (nm, o) :: (aK, tup2 (.str px t1) (.str (kept b) t2)) :: progLed w x d' rl e nm vs ta tb tc td gr tg reg tr z ze (runLed w tk tl ov ol r d lim ld sv fr dP mv st' u' ul zf oP' (X ++ X1))) → (PatTab w ((aK, tup2 (.str px t1) (.str (kept b) t2)) :: progLed w x d' rl e nm vs ta tb tc td gr tg reg tr z ze (X ++ X1)) oP' (storedH (storedH xs kSigns 913 (.int (kept0 + px.length) k')) [px, kept b] aK (.ref x))) → NewP w tk tl ov ol r d lim ld sv fr dP mv ul zf px b cs' kept0 xs v l X X1
set_option maxHeartbeats 4000000 in
theorem for_miss {w : World} {tk tl : Nat → Nat} {ov ol : Nat → Value} {r d lim ld sv fr dP : Addr} {mv : Value} {st kept0 : Int} {u ul zf tx tf : Nat} {oP : Obj} {px fl : Str} {b : Bool} {cs' : List Str} {X : Led} {xs : List (List Str × Addr × Value)} (T0 : PatTab w X oP xs) (lo : (dP == sysModules) = false)
    (hf : ownOf fl b) (hv : pv xs [px, kept b] = none) (hne : RunNe r d lim ld fr dP X) (hp : PatOf px cs') (hK : KeptIs xs kept0) (hk1 : kept0 ≤ 1000) (hz : xs.length ≤ 900) :
    Spec w 925 [.ref r, .str px tx, .str fl tf] (runLed w tk tl ov ol r d lim ld sv fr dP mv st u ul zf oP X) 60 500 (fun v l => ∃ X1, NewP w tk tl ov ol r d lim ld sv fr dP mv ul zf px b cs' kept0 xs v l X X1) := by
  intro mean mg mb dp un gd cn cs a ccd cl outer A₀ base h₀ L m s Q E B F X0 N T hk hd hu ret
  simp only [runLed, List.cons_append, List.nil_append] at N ret ⊢
  obtain ⟨n1, n2, n3, n4, n5, n6, n7, n8⟩ := hne
  have hfb : (kept b = Str.ofString "" ∧ b = false) ∨ (kept b = Str.ofString "i" ∧ b = true) := by cases b <;> simp [kept]
  have hpl : px.length ≤ 3 := by rcases hp with ⟨rfl, _⟩ | ⟨rfl, _⟩ | ⟨rfl, _⟩ | ⟨rfl, _⟩ <;> decide
  ktr_unf
  k_steps
  rename PatTab _ _ _ (storedH (storedH _ _ _ _) _ _ _) => T9
  rename Obj.IsDictOf _ _ _ => hD9
  k_dflt (refine' spec_fin ret (by assumption) (by assumption) (by assumption) (by assumption) (by assumption) ⟨_, _, _, _, _, _, _, _, _, _, _, _, _, _, _, _, _, _, _, _, _, _, _, _, _, rfl, ‹TupsIn _›, ‹Signs _ _ _ _›, hD9, by assumption, rfl, T9.drop5 hD9⟩ ?_; kt_eqs)
-- part S4
theorem rowsS4_1 : True := by
  k_with "m call ref" => (first | (k_here; (with_reducible show wpAny _ _ (call (Value.ref 843) [Value.str (PySem.Str.ofString "(a") _, _]) _ _ _); k_dflt (refine' RSpec.tk0 (compile_bad ?hfl) ?kB ?kF ?kX ?kN ?kT ?kK ?kD ?kU ?_; (case hfl => assumption); ((case kB => k_asm); (case kF => k_asm); (case kX => k_asm); (case kN => k_asm); (case kT => k_asm); (case kK => first | exact rfl | assumption); (case kD => ktr_room); (case kU => ktr_units))); k_dflt (rintro g' e' t' d' dob' h' tk' FG' NG' hD' R')) | fail "row")
  k_with "m getAttr ref" => (first | (k_here; k_dflt (refine' get_excN ?k1 ?k2 ?k3 ?k4 ?k5 ?k6 ?k7 ?k8 ?k9 ?k10 ?k11 ?k12 ?k13 ?_; (case k1 => k_asm); (case k2 => k_asm); (case k3 => k_asm); (case k4 => k_mem); (case k5 => k_mem); (case k6 => k_is); (case k7 => k_is); (case k8 => kernel_rfl); (case k9 => kernel_rfl); (case k10 => k_is); (case k11 => kernel_rfl); (case k12 => k_get); (case k13 => k_handed))) | fail "row")
  k_with "m call ref" => (first | (k_here; (with_reducible show wpAny _ _ (call (Value.ref 325) _) _ _ _); k_dflt (refine' SpecH.tk (die_made) ?kA ?kB ?kF ?kX ?kN ?kS ?kR ?kT ?kK ?kD ?kU ?_; (case kA => exact rfl); (case kD => first | ktr_room | ((simp only [depth_mark, depth_deeper]); (try dsimp only [ktrTop]); omega)); (case kU => first | ktr_units | ((simp only [Around.mark_units, units_deeper]); (try dsimp only [ktrTop]); omega)); ((case kB => k_asm); (case kF => k_asm); (case kX => k_asm); (case kN => k_asm); (case kS => exact Take.nil); (case kR => exact apart_none); (case kT => k_asm); (case kK => first | exact rfl | assumption))); k_dflt (rintro v' l' h' tk' ⟨e', e1', t', d', _, _, _, e2'⟩ F' N' ne'); subst e1'; subst e2'; (simp only [List.cons_append, List.nil_append] at N'); (simp only [AllApart, AllNe, and_true] at ne'); (repeat (rename (_ ∧ _) => hcj9; rcases hcj9 with ⟨hcj8, hcj7⟩)); (try dsimp only); (try k_sweep)) | fail "row")
  k_with "m raiseStmt" => (first | (k_here; k_dflt (refine' raise_chain (dd := some _) ?k1 ?k2 ?k3 ?k4 ?k5 ?k6 ?k7 ?k8 ?_; (case k4 => k_asm); (case k3 => k_asm); (case k1 => exact Frag.In.keeps ‹(KF _).In _› ‹Fr _ _ _ _›.keep); (case k2 => exact ⟨_, _, _, _, _, _, _, _, _, _, _, _, _, _, _, by k_is⟩); (case k8 => exact rfl); (case k6 => exact (‹News _ _ _ _› _ (.tail _ (.tail _ (.head _)))).1); (case k7 => k_ne); (case k5 => repeat' (first | exact List.forall_mem_nil _ | refine' List.forall_mem_cons.mpr ⟨?_, ?_⟩ | k_ne | k_all))); intro h' F' N') | fail "row")
  trivial
set_option maxHeartbeats 4000000 in
theorem for_bad {w : World} {tw tl : Nat → Nat} {ov ol : Nat → Value} {r d lim ld sv fr dP : Addr} {mv : Value} {st : Int} {u ul zf tx tf : Nat} {oP : Obj} {fl : Str} {b : Bool} {X : Led} {xs : List (List Str × Addr × Value)} (T0 : PatTab w X oP xs) (lo : (dP == sysModules) = false)
    (hf : ownOf fl b) (hv : pv xs [Str.ofString "(a", kept b] = none) (hne : RunNe r d lim ld fr dP X) :
    RSpecB w 925 [.ref r, .str (Str.ofString "(a") tx, .str fl tf] (runLed w tw tl ov ol r d lim ld sv fr dP mv st u ul zf oP X) 60 500 325 := by
  intro mean mg mb dp un gd cn cs a ccd cl outer A₀ base h₀ L m s Q E B F X0 N T XB TB hk hd hu ret
  simp only [runLed, List.cons_append, List.nil_append] at N ret ⊢
  obtain ⟨n1, n2, n3, n4, n5, n6, n7, n8⟩ := hne
  have hfb : (kept b = Str.ofString "" ∧ b = false) ∨ (kept b = Str.ofString "i" ∧ b = true) := by cases b <;> simp [kept]
  ktr_unf
  k_steps
  rename RaisedD _ _ _ _ _ _ _ _ _ _ _ => R9
  rename BadD _ _ => hB9
  obtain ⟨x0, k0, tx0, u0, k1, k2, rfl⟩ := hB9
  k_dflt (refine' catch_as (bmC := excTail) (bmD := [.type "Exception", .type "BaseException", .type "object"]) (Dc := 305) R9 (by assumption) (by assumption) (by assumption) XB TB (by exact ⟨_, _, _, _, _, _, _, _, _, _, _, _, _, _, _, by k_is⟩) (by exact ⟨_, _, _, _, _, _, _, _, _, _, _, _, _, _, _, by k_is⟩) (by simp) (by simp) ?hname ?k9 rfl rfl)
  case hname =>
    intro g5 h5 Q5 E5 F5 X5 T5 hq5
    k_steps
    exact hq5
  case k9 =>
    intro h6 g6 T6 tk6 KT6 F6 N6 K6 X6 TE6
    k_steps
    k_dflt (refine' suite_raised (keep := runLed w tw tl ov ol r d lim ld sv fr dP mv st u ul zf oP X) K6 ?F9 ?N9 (.head _) (.tail _ (.head _)) ?c9 ?hkp ?hQ ?hl9 ?hk9)
    case hl9 => exact rfl
    case hk9 => exact rfl
    case F9 => assumption
    case N9 => assumption
    case c9 => simp
    case hkp =>
      refine List.forall_mem_cons.mpr ⟨⟨by k_mem, by k_ne⟩, List.forall_mem_cons.mpr ⟨⟨by k_mem, by k_ne⟩, List.forall_mem_cons.mpr ⟨⟨by k_mem, by k_ne⟩, List.forall_mem_cons.mpr ⟨⟨by k_mem, by k_ne⟩, List.forall_mem_cons.mpr ⟨⟨by k_mem, by k_ne⟩, List.forall_mem_cons.mpr ⟨⟨by k_mem, by k_ne⟩, fun q hq => ⟨?m9, Ne.symm (allNe_at (by assumption) q hq)⟩⟩⟩⟩⟩⟩⟩
      case m9 => repeat (first | exact hq | refine List.Mem.tail _ ?_)
    case hQ =>
      intro h9 tk9 R8
      k_dflt (exact ret _ _ _ _ _ _ _ _ (by assumption) (by assumption) (R8.turn KT6))
-- part S5
theorem rowsS5_1 : True := by
  k_with "m call ref" => (first | (k_here; (with_reducible show wpAny _ _ (call (Value.ref 925) _) _ _ _); k_dflt (refine' Spec.tk (for_hit ?t0 ?lo ?hf ?hv ?hn) ?kB ?kF ?kX ?kN ?kS ?kR ?kT ?kK ?kD ?kU ?_; kwd_inv; (case t0 => exact PatTab.mono2 (by assumption) (by kt_eqs)); (case lo => assumption); (case hf => assumption); (case hv => assumption); (case hn => assumption)); k_dflt (rintro v' l' h' tk' ⟨e1', _, _, _, e2'⟩ F' N' ne'); subst e1'; subst e2'; (simp only [runLed, List.cons_append, List.nil_append, List.append_nil] at N'); clear ne'; (try dsimp only); (try k_sweep)) | fail "row")
  k_with "m call ref" => (first | (k_here; (with_reducible show wpAny _ _ (call (Value.ref 925) _) _ _ _); k_dflt (refine' Spec.tk (for_miss ?t0 ?lo ?hf ?hv ?hn ?hp ?hK ?hk ?hz) ?kB ?kF ?kX ?kN ?kS ?kR ?kT ?kK ?kD ?kU ?_; kwd_inv; (case t0 => exact PatTab.mono2 (by assumption) (by kt_eqs)); (case lo => assumption); (case hf => assumption); (case hv => assumption); (case hn => assumption); (case hp => assumption); (case hK => assumption); (case hk => assumption); (case hz => assumption)); k_dflt (rintro v' l' h' tk' ⟨X1', hP'⟩ F' N' ne'); (simp only [List.append_nil] at N'); clear ne'; (try dsimp only)) | fail "row")
  trivial
theorem chosen_last {w : World} {tw tl : Nat → Nat} {ov ol : Nat → Value} {r d lim ld sv fr dP x : Addr} {mv : Value} {st : Int} {u ul zf tx tf : Nat} {oP : Obj} {fl : Str} {X : Led} {xs : List (List Str × Addr × Value)} (T0 : PatTab w X oP xs) (lo : (dP == sysModules) = false) (hl : (pv xs kLast).getD .none = .ref x) :
    Spec w 939 [.ref r, .str (Str.ofString "") tx, .str fl tf] (runLed w tw tl ov ol r d lim ld sv fr dP mv st u ul zf oP X) 64 520 (fun v l => v = .ref x ∧ l = runLed w tw tl ov ol r d lim ld sv fr dP mv st u ul zf oP X) := by
  intro mean mg mb dp un gd cn cs a ccd cl outer A₀ base h₀ L m s Q E B F X0 N T hk hd hu ret
  simp only [runLed, List.cons_append, List.nil_append] at N ret ⊢
  ktr_unf
  k_steps
  k_dflt (refine' spec_fin ret (by assumption) (by assumption) (by assumption) (by assumption) (by assumption) ⟨rfl, rfl⟩ ?_; kt_eqs)
set_option maxHeartbeats 4000000 in
theorem chosen_hit {w : World} {tw tl : Nat → Nat} {ov ol : Nat → Value} {r d lim ld sv fr dP : Addr} {mv v0 : Value} {st : Int} {u ul zf tx tf : Nat} {oP : Obj} {px fl : Str} {b : Bool} {cs' : List Str} {X : Led} {xs : List (List Str × Addr × Value)} (T0 : PatTab w X oP xs) (lo : (dP == sysModules) = false)
    (hf : ownOf fl b) (hv : pv xs [px, kept b] = some v0) (hne : RunNe r d lim ld fr dP X) (hp : PatOf px cs') (hl : px = Str.ofString "" → (pv xs kLast).getD .none = .none) :
    Spec w 939 [.ref r, .str px tx, .str fl tf] (runLed w tw tl ov ol r d lim ld sv fr dP mv st u ul zf oP X) 64 520 (fun v l => v = v0 ∧ ∃ aK t1 t2, l = (aK, tup2 (.str px t1) (.str (kept b) t2)) :: runLed w tw tl ov ol r d lim ld sv fr dP mv st u ul zf oP X) := by
  intro mean mg mb dp un gd cn cs a ccd cl outer A₀ base h₀ L m s Q E B F X0 N T hk hd hu ret
  simp only [runLed, List.cons_append, List.nil_append] at N ret ⊢
  by_cases hpe : px = Str.ofString ""
  · replace hl := hl hpe
    subst hpe
    ktr_unf
    k_steps
    k_dflt (refine' spec_fin ret (by assumption) (by assumption) (by assumption) (by assumption) (by assumption) ⟨rfl, _, _, _, rfl⟩ ?_; kt_eqs)
  · clear hl
    replace hpe : (px == Str.ofString "") = false := beq_false_of_ne hpe
    ktr_unf
    k_steps
    k_dflt (refine' spec_fin ret (by assumption) (by assumption) (by assumption) (by assumption) (by assumption) ⟨rfl, _, _, _, rfl⟩ ?_; kt_eqs)
-- part S6
theorem RSpecB.tk {w : World} {f : Addr} {args : List Value} {foot : Led} {D U : Nat} {C : Addr} {mean : ExcName → Option Value} {mg mb : Str → Option Value} {dp un : Nat} {gd : Option (List Code)} {cn : Str} {cs : Scope} {a : Addr} {ccd : Value} {cl : List (Str × Addr)} {outer : List Env} {A₀ : Around} {base h₀ : Heap} {L : Addr} {m : Str → Option Value} {s : Shared} {Q E : Value → Shared → Prop}
    (S : RSpecB w f args foot D U C) (B : Below A₀ base outer h₀) (F : Fr h₀ L s.heap m) (X : (KF w.params).In h₀) (N : News h₀ L s.heap foot) (T : TopE mean mg mb h₀) (XB : (KF w.params).In base) (TB : TopE mean mg mb base) (hk : cs.kind = .function) (hd : dp + D < recursionLimit) (hu : un + U < cLine)
    (ret : ∀ g e t d dob cx h' tk', Fr h₀ L g m → RaisedD base g (envX cn cs L a ccd cl :: outer) e C t d dob cx foot h' → E (.ref e) { s with heap := h', toks := tk' }) :
    wpAny (model pE w) (ktrTop dp un gd cn cs L a ccd cl outer) (call (.ref f) args) Q E s :=
  S mean mg mb dp un gd cn cs a ccd cl outer A₀ base h₀ L m s Q E B F X N T XB TB hk hd hu fun g e t d dob cx h' tk' FG _ R => ret g e t d dob cx h' tk' FG R
theorem rowsS6_1 : True := by
  k_with "m call ref" => (first | (k_here; (with_reducible show wpAny _ _ (call (Value.ref 925) [_, Value.str (PySem.Str.ofString "(a") _, _]) _ _ _); k_dflt (refine' RSpecB.tk (for_bad ?t0 ?lo ?hf ?hv ?hn) ?kB ?kF ?kX ?kN ?kT ?xB ?tB ?kK ?kD ?kU ?_; ((case kB => k_asm); (case kF => k_asm); (case kX => k_asm); (case kN => assumption); (case xB => assumption); (case tB => assumption); (case kT => k_asm); (case kK => first | exact rfl | assumption); (case kD => ktr_room); (case kU => ktr_units)); (case t0 => assumption); (case lo => assumption); (case hf => assumption); (case hv => assumption); (case hn => assumption)); k_dflt (rintro g' e' t' d' dob' cx' h' tk' FG' R')) | fail "row")
  trivial
set_option maxHeartbeats 4000000 in
theorem chosen_miss {w : World} {tw tl : Nat → Nat} {ov ol : Nat → Value} {r d lim ld sv fr dP : Addr} {mv : Value} {st kept0 : Int} {u ul zf tx tf : Nat} {oP : Obj} {px fl : Str} {b : Bool} {cs' : List Str} {X : Led} {xs : List (List Str × Addr × Value)} (T0 : PatTab w X oP xs) (lo : (dP == sysModules) = false)
    (hf : ownOf fl b) (hv : pv xs [px, kept b] = none) (hne : RunNe r d lim ld fr dP X) (hp : PatOf px cs') (hK : KeptIs xs kept0) (hk1 : kept0 ≤ 1000) (hz : xs.length ≤ 900) (hl : px = Str.ofString "" → (pv xs kLast).getD .none = .none) :
    Spec w 939 [.ref r, .str px tx, .str fl tf] (runLed w tw tl ov ol r d lim ld sv fr dP mv st u ul zf oP X) 64 520 (fun v l => ∃ X1, NewP w tw tl ov ol r d lim ld sv fr dP mv ul zf px b cs' kept0 xs v l X X1) := by
  intro mean mg mb dp un gd cn cs a ccd cl outer A₀ base h₀ L m s Q E B F X0 N T hk hd hu ret
  simp only [runLed, List.cons_append, List.nil_append] at N ret ⊢
  have hp9 := hp
  by_cases hpe : px = Str.ofString ""
  · replace hl := hl hpe
    subst hpe
    ktr_unf
    k_steps
    k_dflt (refine' spec_fin ret (by assumption) (by assumption) (by assumption) (by assumption) (by assumption) ⟨_, by assumption⟩ (fun _ h => h))
  · clear hl
    replace hpe : (px == Str.ofString "") = false := beq_false_of_ne hpe
    ktr_unf
    k_steps
    k_dflt (refine' spec_fin ret (by assumption) (by assumption) (by assumption) (by assumption) (by assumption) ⟨_, by assumption⟩ (fun _ h => h))
theorem chosen_bad {w : World} {tw tl : Nat → Nat} {ov ol : Nat → Value} {r d lim ld sv fr dP : Addr} {mv : Value} {st : Int} {u ul zf tx tf : Nat} {oP : Obj} {fl : Str} {b : Bool} {X : Led} {xs : List (List Str × Addr × Value)} (T0 : PatTab w X oP xs) (lo : (dP == sysModules) = false)
    (hf : ownOf fl b) (hv : pv xs [Str.ofString "(a", kept b] = none) (hne : RunNe r d lim ld fr dP X) :
    RSpecB w 939 [.ref r, .str (Str.ofString "(a") tx, .str fl tf] (runLed w tw tl ov ol r d lim ld sv fr dP mv st u ul zf oP X) 64 520 325 := by
  intro mean mg mb dp un gd cn cs a ccd cl outer A₀ base h₀ L m s Q E B F X0 N T XB TB hk hd hu ret
  simp only [runLed, List.cons_append, List.nil_append] at N ret ⊢
  ktr_unf
  k_steps
  k_dflt (exact ret _ _ _ _ _ _ _ _ (by assumption) (by assumption) (by assumption))
-- part S7
/-- a contract in the lowest frame: the frame's own object may bear marks of a raise -/
noncomputable def SpecL (w : World) (f : Addr) (args : List Value) (foot : Led) (D U : Nat) (P : Value → Prop) : Prop :=
  ∀ (mean : ExcName → Option Value) (mg mb : Str → Option Value) (dp un : Nat) (gd : Option (List Code)) (cn : Str) (cs : Scope) (a : Addr) (ccd : Value) (A₀ : Around) (base h₀ : Heap) (L : Addr) (m : Str → Option Value) (s : Shared) (Q E : Value → Shared → Prop),
    Below A₀ base [] h₀ → Fr h₀ L s.heap m → (KF w.params).In h₀ → News h₀ L s.heap foot → TopE mean mg mb h₀ → (KF w.params).In base → TopE mean mg mb base → cs.kind = .function → dp + D < recursionLimit → un + U < cLine →
    (∀ v h' tk', P v → Fr h₀ L h' m → News h₀ L h' foot → (∀ b o, s.heap.get? b = some o → b ∉ foot.map (·.1) → b ≠ L → h'.get? b = some o) → Q v { s with heap := h', toks := tk' }) →
    wpAny (model pE w) (ktrTop dp un gd cn cs L a ccd [] []) (call (.ref f) args) Q E s
theorem own_callS {prog : Program} {w : World} {A A₀ : Around} {s : Shared} {K : Frag} {L : Addr} {h₀ base : Heap} {m mg mb : Str → Option Value} {foot : Led} {p : Program} {loose : List Str} {mean : ExcName → Option Value} {env : Env} {outer : List Env} {R : Result → Shared → Prop} {name qual : Str} {params : Arguments} {body : List Stmt} {scope : Scope} {dV kV doc pm cdv ct oc : Value} {an od : Option Addr} {osl : Array (Option Value)} {f : Addr} {args : Args} {binds : List (Str × Value)}
    (B : Below A₀ base outer h₀) (F : Fr h₀ L s.heap m) (X₀ : K.In h₀) (N : News h₀ L s.heap foot) (T : Top p loose mean mg mb h₀) (hA : A.frames = some (env :: outer)) (hf : env.frame = some L) (hke : env.scope.kind = .function)
    (ho : K.lookup f = some ⟨oc, od, .func (fnOf name qual params body scope dV kV doc pm an cdv ct), osl⟩) (hcd : codeIn K cdv qual = true) (hroom : A.depth < recursionLimit)
    (hbind : BindsTo s (fnOf name qual params body scope dV kV doc pm an cdv ct) args binds) (hloc : ∀ y ∈ binds, scope.names.lookup y.1 = some .local)
    (h : ∀ g L' h₁, Fr h₀ L g m → Keeps foot s.heap g → g.objs.size = s.heap.objs.size → Fr g L' h₁ (fun y => binds.reverse.lookup y) → News g L' h₁ foot → Below A base (env :: outer) g → K.In g → Top p loose mean mg mb g →
      wpAny (model prog w) (A.deeper (envOf qual scope L' f cdv)) (execs body (envOf qual scope L' f cdv))
        (fun fl s' => R (.ok (.ret (match fl with | .ret v => v | _ => .none))) s')
        (fun e s' => wpAny (model prog w) (A.deeper (envOf qual scope L' f cdv)) (leaving (envOf qual scope L' f cdv) e) (fun _ s'' => R (.error e) s'') (fun e' s'' => R (.error e') s'') s')
        { s with heap := h₁, toks := s.toks + binds.length })
    (hco : scope.isCoroutine = false) (hgen : scope.isGenerator = false) (hk : scope.kind = .function)
    (hcell : ∀ x ∈ scope.names, x.2 ≠ .cell) : codeAny (model prog w) A (.call (.ref f) args) R s := by
  obtain ⟨FG, BG, st, lv⟩ := groundX (R := R) B F N hA hf hke
  have XS := X₀.keeps F.keep
  refine codeAny_call_def (fd := fnOf name qual params body scope dV kV doc pm an cdv ct) (body := body) (binds := binds) hroom (XS _ _ ho) rfl (T.nolimit.keeps F.keep) (codeRec_of XS hcd) rfl hbind hcell hloc (fun h₁ hns hk₁ => ?_) hco hgen hk
  exact wpAny_mono (h _ s.heap.objs.size h₁ FG (fun b o e n => hideAll_get _ e n) (hideAll_size _ _) ⟨hns, fun b o e => hk₁ b o (of_hideAll _ e), Nat.le_of_eq (hideAll_size _ _)⟩
    (fun q hq => ⟨hk₁ _ _ (N q hq).1, Nat.ne_of_lt (Heap.lt_size (N q hq).1), hideAll_none _ (List.mem_map_of_mem hq)⟩) BG (X₀.keeps st) (T.keeps st)) (fun fl s' hl => hl) fun _ _ y => y
/-- at a handler without a name -/
theorem catch_0 {w : World} {A : Around} {E : Value → Shared → Prop} {s' : Shared} {base g G : Heap} {outer : List Env} {L a e C Dc t d : Addr} {dob : Obj} {m : Str → Option Value} {name x : Str} {scope : Scope} {cd : Value} {keep : Led} {cx : Value} {bmC bmD : List Value} {np pos : Pos} {b₀ : Stmt} {suite : List Stmt} {rest : List ExceptHandler} {Q : Flow → Shared → Prop} {mean : ExcName → Option Value} {mg mb : Str → Option Value}
    (R : RaisedD base G (envOf name scope L a cd :: outer) e C t d dob cx keep s'.heap) (F : Fr g L G m) (K : Below A base outer g) (XB : (KF w.params).In base) (TB : TopE mean mg mb base)
    (hc : xcInB (KF w.params) C bmC) (hd : xcInB (KF w.params) Dc bmD) (hbD : (Value.ref Dc :: bmD).contains (.type "BaseException") = true) (hCD : (Value.ref C :: bmC).contains (.ref Dc) = true)
    (hname : ∀ (g5 h5 : Heap) (Q' E' : Value → Shared → Prop), Fr g5 L h5 m → (KF w.params).In g5 → TopE mean mg mb g5 → Q' (.ref Dc) { s' with heap := h5 } → wpAny (model pE w) ((A.deeper (envOf name scope L a cd)).mark (some (.ref e))) (eval (.Name x np) (envOf name scope L a cd)) Q' E' { s' with heap := h5 })
    (k : ∀ h' g' E', KtsTurn (outer.filterMap (·.frame)) g g' → Fr g' L h' m → (∀ q ∈ keep, h'.get? q.1 = some q.2) → (∀ b o, G.get? b = some o → b ∉ (envOf name scope L a cd :: outer).filterMap (·.frame) → h'.get? b = some o) → G.UpToSlots h' → (KF w.params).In g' → TopE mean mg mb g' →
      wpAny (model pE w) ((A.deeper (envOf name scope L a cd)).mark (some (.ref e))) (execs (b₀ :: suite) (envOf name scope L a cd)) Q E' { s' with heap := h' }) :
    wpAny (model pE w) (A.deeper (envOf name scope L a cd)) (noteFrame (.ref e) (envOf name scope L a cd))
      (fun _ s₂ => wpAny (model pE w) (A.deeper (envOf name scope L a cd)) (setFlight (.ref e) none) (fun _ s₃ =>
        wpAny (model pE w) (A.deeper (envOf name scope L a cd)) (handleBy (.ref e) (envOf name scope L a cd) (.ExceptHandler (some (.Name x np)) none (b₀ :: suite) pos :: rest)) Q E s₃) E s₂) E s' := by
  obtain ⟨⟨B, hB, hBG, hdo, hdn, hen, hkp, hfl⟩, hu⟩ := R
  refine d_next (Around.frames_deeper K.stack) rfl hfl fun h₄ x₄ u₄ => ?_
  refine d_flight (at_ := none) x₄ fun h₅ x₅ u₅ => ?_
  obtain ⟨g₅, T₅, F₅, K₅⟩ := kts_ground K F hBG x₅.1 (hu.trans (u₄.trans u₅))
  obtain ⟨tb, hob⟩ := x₅.there
  refine wpAny_handleBy_cons (codeAny_handlers_test (hname g₅ h₅ _ _ F₅ (XB.keeps K₅.stays) (TB.keeps K₅.stays) ?_)) (by intro q; cases q)
  refine x_matches (K := KF w.params) (s := { s' with heap := h₅ }) (XB.keeps fun b o e => F₅.keep b o (K₅.stays b o e)) hc hd hbD hCD hob rfl (codeAny_handlers_suite ?_)
  refine d_flight (at_ := none) x₅ fun h₆ x₆ u₆ => ?_
  obtain ⟨g₆, T₆, F₆, K₆⟩ := kts_ground K F hBG x₆.1 (hu.trans (u₄.trans (u₅.trans u₆)))
  exact k h₆ g₆ _ T₆ F₆ (fun q hq => x₆.1 _ _ (hkp q hq)) (fun b o e nm => x₆.1 _ _ (hBG b o e nm)) (hu.trans (u₄.trans (u₅.trans u₆))) (XB.keeps K₆.stays) (TB.keeps K₆.stays)
theorem rowsS7_1 : True := by
  k_with "m call ref" => (first | (k_here; (with_reducible show wpAny _ _ (call (Value.ref 939) [_, Value.str (PySem.Str.ofString "(a") _, _]) _ _ _); k_dflt (refine' RSpecB.tk (chosen_bad ?t0 ?lo ?hf ?hv ?hn) ?kB ?kF ?kX ?kN ?kT ?xB ?tB ?kK ?kD ?kU ?_; ((case kB => k_asm); (case kF => k_asm); (case kX => k_asm); (case kN => assumption); (case xB => assumption); (case tB => assumption); (case kT => k_asm); (case kK => first | exact rfl | assumption); (case kD => ktr_room); (case kU => ktr_units)); (case t0 => assumption); (case lo => assumption); (case hf => assumption); (case hv => assumption); (case hn => assumption)); k_dflt (rintro g' e' t' d' dob' cx' h' tk' FG' R')) | fail "row")
  trivial
set_option maxHeartbeats 4000000 in
theorem asked_bad {w : World} {tw tl : Nat → Nat} {ov ol : Nat → Value} {r d lim ld sv fr dP : Addr} {mv : Value} {st : Int} {u ul zf tx tf : Nat} {oP : Obj} {fl : Str} {b : Bool} {X : Led} {xs : List (List Str × Addr × Value)} (T0 : PatTab w X oP xs) (lo : (dP == sysModules) = false)
    (hf : ownOf fl b) (hv : pv xs [Str.ofString "(a", kept b] = none) (hne : RunNe r d lim ld fr dP X) :
    SpecL w 1090 [.ref r, .str (Str.ofString "(a") tx, .str fl tf] (runLed w tw tl ov ol r d lim ld sv fr dP mv st u ul zf oP X) 70 540 (fun v => v = .none) := by
  intro mean mg mb dp un gd cn cs a ccd A₀ base h₀ L m s Q E B F X0 N T XB TB hk hd hu ret
  simp only [runLed, List.cons_append, List.nil_append] at N ret ⊢
  w_on
  refine wpAny_call ?_
  k_dflt (refine' own_callS ?k1 ?k2 ?k3 ?k4 ?k5 ?kA ?kF ?kK ?k6 ?k7 ?k8 ?k9 ?kB ?_ ?c2 ?c3 ?c4 ?c5)
  case kA => exact rfl
  case kF => exact rfl
  case kK => assumption
  case k1 => k_asm
  case k2 => k_asm
  case k3 => k_asm
  case k4 => k_asm
  case k5 => k_asm
  case k6 => k_is
  case k7 => k_is
  case k8 => ktr_room
  case k9 => exact BindsTo.of_eq rfl
  case c5 => decide
  case kB => exact locs rfl
  case c2 => exact rfl
  case c3 => exact rfl
  case c4 => exact rfl
  k_whole
  intro g' L' h' FG' hg' hsz' F' N' B' X' T'
  dsimp only
  k_lift B'
  k_fold
  k_steps
  rename RaisedD _ _ _ _ _ _ _ _ _ _ _ => R9
  rename Fr _ _ _ _ => FG9
  k_dflt (refine' catch_0 (bmC := excTail) (bmD := excTail) (Dc := 325) R9 FG9 (by assumption) XB TB (by exact ⟨_, _, _, _, _, _, _, _, _, _, _, _, _, _, _, by k_is⟩) (by exact ⟨_, _, _, _, _, _, _, _, _, _, _, _, _, _, _, by k_is⟩) (by simp) (by simp) ?hname ?k9)
  case hname =>
    intro g5 h5 Q5 E5 F5 X5 T5 hq5
    k_steps
    exact hq5
  case k9 =>
    intro h6 g6 E6 KT6 F6 hkeep hG hU X6 TE6
    k_steps
    refine ret _ h6 _ rfl ⟨hU.ns (FG'.ns.keeps FG9.keep), fun b o e => ?_, FG'.above⟩ (fun q hq => ⟨hkeep q hq, (N q hq).2⟩) fun b o e hb hbL => ?_
    · refine hG b o (FG9.keep b o (FG'.keep b o e)) fun hm => ?_
      rcases kts_mem hm with z | z
      · have h1 := FG'.keep b o e
        rw [z, kts_self FG9] at h1
        cases h1
      · have z' : b = L := List.mem_singleton.mp z
        rw [z', kts_self F] at e
        cases e
    · have h1 := hg' b o e hb
      refine hG b o (FG9.keep b o h1) fun hm => ?_
      rcases kts_mem hm with z | z
      · rw [z, kts_self FG9] at h1
        cases h1
      · exact hbL (List.mem_singleton.mp z)
-- part T0
/-- the cup's dict -/
noncomputable abbrev cupOf (cl : Addr) (k : Int) (u : Nat) : List (Str × Value) := [(Str.ofString "cells", .ref cl), (Str.ofString "at", .int k u)]
theorem dict_cls {w : World} {o : Obj} {kvs : List (Str × Value)} (h : o.IsDictOf (PySem.strKind pE w) kvs) : o.cls = .type "dict" := by
  obtain ⟨_, _, c, _⟩ := h
  exact c.1
theorem dict_ne {w : World} {h₀ h : Heap} {L a b : Addr} {o ob : Obj} {kvs : List (Str × Value)} {l : Led} (hd : o.IsDictOf (PySem.strKind pE w) kvs) (N : News h₀ L h l) (ha : (a, o) ∈ l) (hb : (b, ob) ∈ l) (hc : ob.cls ≠ .type "dict") : @Ne Nat a b :=
  led_ne N ha hb (by rw [dict_cls hd]; exact hc.symm)
set_option maxHeartbeats 1000000 in
theorem dice_spec {w : World} {c cl : Addr} {o : Obj} {vs : List Value} {ns : List Int} {k many : Int} {u tm z : Nat} (hd9 : o.IsDictOf (PySem.strKind pE w) (cupOf cl k u)) (lo : (c == sysModules) = false) (hI : IntsAre vs ns) (hlen : ns.length ≤ 40) (h0 : 0 ≤ k) (h1 : k ≤ 1000) (m1 : 1 ≤ many) (m2 : many ≤ 9) :
    Spec w 1078 [.ref c, .int many tm] [(c, o), (cl, listOf vs.toArray z)] 2 40
      (fun v l => ∃ j t o' u', v = .int j t ∧ 0 ≤ j ∧ j < many ∧ l = [(c, o'), (cl, listOf vs.toArray z)] ∧ o'.IsDictOf (PySem.strKind pE w) (cupOf cl (k + 1) u')) := by
  intro mean mg mb dp un gd cn cs a ccd cl9 outer A₀ base h₀ L m s Q E B F X N T hk hd hu ret
  have hcc := dict_ne hd9 N (.head _) (.tail _ (.head _)) (by simp)
  ktr_unf
  k_steps
  all_goals (rename Obj.IsDictOf _ _ _ => hD9)
  all_goals k_dflt (refine' spec_fin ret (by assumption) (by assumption) (by assumption) (by assumption) (by assumption) ⟨_, _, _, _, rfl, Int.fmod_nonneg_of_pos _ (by omega), Int.fmod_lt_of_pos _ (by omega), rfl, hD9⟩ ?_; kt_eqs)
theorem rowsT0_1 : True := by
  k_with "m call ref" => (first | (k_here; (with_reducible show wpAny _ _ (call (Value.ref 1078) _) _ _ _); k_dflt (refine' Spec.tk (dice_spec ?hd ?lo ?hI ?hl ?h0 ?h1 ?m1 ?m2) ?kB ?kF ?kX ?kN ?kS ?kR ?kT ?kK ?kD ?kU ?_; (case hd => assumption); (case lo => assumption); (case hI => assumption); kwd_inv; (case hl => tb_rel); (case h0 => tb_rel); (case h1 => tb_rel); (case m1 => decide); (case m2 => decide)); k_dflt (rintro v' l' h' tk' ⟨j', _, o', _, e1', hj0', hj1', e2', hd'⟩ F' N' ne'); subst e1'; subst e2'; (simp only [List.cons_append, List.nil_append] at N'); clear ne'; (try dsimp only); (try k_sweep)) | fail "row")
  trivial
-- part T1
noncomputable abbrev strs5 (x0 x1 x2 x3 x4 : String) (t0 t1 t2 t3 t4 : Nat) : List Value := [.str (Str.ofString x0) t0, .str (Str.ofString x1) t1, .str (Str.ofString x2) t2, .str (Str.ofString x3) t3, .str (Str.ofString x4) t4]
set_option maxHeartbeats 1000000 in
theorem flags_spec {w : World} : Spec w 1071 [] [] 2 20 (fun v l => ∃ f z t0 t1 t2 t3 t4, v = .ref f ∧ l = [(f, listOf (strs5 "" "i" "gi" "g" "cg" t0 t1 t2 t3 t4).toArray z)]) := by
  intro mean mg mb dp un gd cn cs a ccd cl9 outer A₀ base h₀ L m s Q E B F X N T hk hd hu ret
  ktr_unf
  k_steps
  all_goals k_dflt (refine' spec_fin ret (by assumption) (by assumption) (by assumption) (by assumption) (by assumption) ⟨_, _, _, _, _, _, _, rfl, rfl⟩ ?_; kt_eqs)
set_option maxHeartbeats 1000000 in
theorem patterns_spec {w : World} : Spec w 1064 [] [] 2 20 (fun v l => ∃ f z t0 t1 t2 t3 t4, v = .ref f ∧ l = [(f, listOf (strs5 "a" "b" "bab" "" "(a" t0 t1 t2 t3 t4).toArray z)]) := by
  intro mean mg mb dp un gd cn cs a ccd cl9 outer A₀ base h₀ L m s Q E B F X N T hk hd hu ret
  ktr_unf
  k_steps
  all_goals k_dflt (refine' spec_fin ret (by assumption) (by assumption) (by assumption) (by assumption) (by assumption) ⟨_, _, _, _, _, _, _, rfl, rfl⟩ ?_; kt_eqs)
noncomputable def PatAt (j : Int) (px : Str) : Prop := (j = 0 ∧ px = Str.ofString "a") ∨ (j = 1 ∧ px = Str.ofString "b") ∨ (j = 2 ∧ px = Str.ofString "bab") ∨ (j = 3 ∧ px = Str.ofString "") ∨ (j = 4 ∧ px = Str.ofString "(a")
theorem pat_item {w : World} {A : Around} {E : Value → Shared → Prop} {s : Shared} {h₀ : Heap} {L f : Addr} {news : Led} {value slice : PySem.Expr} {j : Int} {u z t0 t1 t2 t3 t4 : Nat} {Q : Value → Shared → Prop}
    (N : News h₀ L s.heap news) (hm : (f, listOf (strs5 "a" "b" "bab" "" "(a" t0 t1 t2 t3 t4).toArray z) ∈ news) (h0 : 0 ≤ j) (h1 : j < 5) (h : ∀ px t, PatAt j px → Q (.str px t) s)
    (hs : subscripted slice false (.ref f) (.int j u) = operate [.ref f, .int j u] (getItem (.ref f) (.int j u)) := by with_unfolding_all rfl) :
    wpAny (model pE w) A (subscriptTail value slice (.ref f) (.int j u)) Q E s := by
  have hl := News.isList N hm
  have hj : j = 0 ∨ j = 1 ∨ j = 2 ∨ j = 3 ∨ j = 4 := by omega
  rcases hj with rfl | rfl | rfl | rfl | rfl
  · exact item_litK hl (by decide) (by decide) rfl (h _ _ (.inl ⟨rfl, rfl⟩)) hs
  · exact item_litK hl (by decide) (by decide) rfl (h _ _ (.inr (.inl ⟨rfl, rfl⟩))) hs
  · exact item_litK hl (by decide) (by decide) rfl (h _ _ (.inr (.inr (.inl ⟨rfl, rfl⟩)))) hs
  · exact item_litK hl (by decide) (by decide) rfl (h _ _ (.inr (.inr (.inr (.inl ⟨rfl, rfl⟩))))) hs
  · exact item_litK hl (by decide) (by decide) rfl (h _ _ (.inr (.inr (.inr (.inr ⟨rfl, rfl⟩))))) hs
theorem flag_item {w : World} {A : Around} {E : Value → Shared → Prop} {s : Shared} {h₀ : Heap} {L f : Addr} {news : Led} {value slice : PySem.Expr} {j : Int} {u z t0 t1 t2 t3 t4 : Nat} {Q : Value → Shared → Prop}
    (N : News h₀ L s.heap news) (hm : (f, listOf (strs5 "" "i" "gi" "g" "cg" t0 t1 t2 t3 t4).toArray z) ∈ news) (h0 : 0 ≤ j) (h1 : j < 5) (h : ∀ fl b t, ownOf fl b → Q (.str fl t) s)
    (hs : subscripted slice false (.ref f) (.int j u) = operate [.ref f, .int j u] (getItem (.ref f) (.int j u)) := by with_unfolding_all rfl) :
    wpAny (model pE w) A (subscriptTail value slice (.ref f) (.int j u)) Q E s := by
  have hl := News.isList N hm
  have hj : j = 0 ∨ j = 1 ∨ j = 2 ∨ j = 3 ∨ j = 4 := by omega
  rcases hj with rfl | rfl | rfl | rfl | rfl
  · exact item_litK hl (by decide) (by decide) rfl (h _ false _ (.inl ⟨rfl, .inl rfl⟩)) hs
  · exact item_litK hl (by decide) (by decide) rfl (h _ true _ (.inr ⟨rfl, .inl rfl⟩)) hs
  · exact item_litK hl (by decide) (by decide) rfl (h _ true _ (.inr ⟨rfl, .inr rfl⟩)) hs
  · exact item_litK hl (by decide) (by decide) rfl (h _ false _ (.inl ⟨rfl, .inr (.inl rfl)⟩)) hs
  · exact item_litK hl (by decide) (by decide) rfl (h _ false _ (.inl ⟨rfl, .inr (.inr rfl)⟩)) hs
/-- whether i is among the flags -/
theorem in_flags {w : World} {A : Around} {E : Value → Shared → Prop} {s : Shared} {fl : Str} {b : Bool} {t u : Nat} {Q : Value → Shared → Prop} (hf : ownOf fl b) (h : Q (.bool b) s) :
    wpAny (model pE w) A (compareOp .In (.str (Str.ofString "i") u) (.str fl t)) Q E s := by
  refine PyProof.Rows.in_str ?_
  have e : (!(Builtin.Str.occurrences fl (Str.ofString "i") 0 fl.length 1).isEmpty) = b := by rcases hf with ⟨rfl, rfl | rfl | rfl⟩ | ⟨rfl, rfl | rfl⟩ <;> decide +kernel
  rw [e]; exact h
theorem rowsT1_1 : True := by
  k_with "m call ref" => (first | (k_here; (with_reducible show wpAny _ _ (call (Value.ref 1071) _) _ _ _); k_dflt (refine' Spec.tk flags_spec ?kB ?kF ?kX ?kN ?kS ?kR ?kT ?kK ?kD ?kU ?_; kwd_inv); k_dflt (rintro v' l' h' tk' ⟨f', _, _, _, _, _, _, e1', e2'⟩ F' N' ne'); subst e1'; subst e2'; (simp only [List.cons_append, List.nil_append] at N'); (simp only [AllApart, AllNe, and_true] at ne'); (repeat (rename (_ ∧ _) => hcj9; rcases hcj9 with ⟨hcj8, hcj7⟩)); (try dsimp only); (try k_sweep)) | fail "row")
  k_with "m call ref" => (first | (k_here; (with_reducible show wpAny _ _ (call (Value.ref 1064) _) _ _ _); k_dflt (refine' Spec.tk patterns_spec ?kB ?kF ?kX ?kN ?kS ?kR ?kT ?kK ?kD ?kU ?_; kwd_inv); k_dflt (rintro v' l' h' tk' ⟨f', _, _, _, _, _, _, e1', e2'⟩ F' N' ne'); subst e1'; subst e2'; (simp only [List.cons_append, List.nil_append] at N'); (try simp only [AllApart, AllNe, and_true] at ne'); (repeat (rename (_ ∧ _) => hcj9; rcases hcj9 with ⟨hcj8, hcj7⟩)); (try dsimp only); (try k_sweep)) | fail "row")
  k_with "m subscriptTail" => (first | (k_here; (with_reducible show wpAny _ _ (subscriptTail _ _ (Value.ref _) (Value.int _ _)) _ _ _); k_dflt (first | (refine' pat_item ?kN ?km ?k0 ?k1 ?_; (case kN => k_asm); (case km => k_mem); (case k0 => tb_rel); (case k1 => tb_rel); intro px' t' hpx') | (refine' flag_item ?kN ?km ?k0 ?k1 ?_; (case kN => k_asm); (case km => k_mem); (case k0 => tb_rel); (case k1 => tb_rel); intro fl' b' t' hfl'))) | fail "row")
  k_with "m compareOp In str str" => (first | (k_here; k_dflt (refine' in_flags ?kf ?_; (case kf => assumption))) | fail "row")
  trivial
-- part U0
theorem rowsU0_1 : True := by
  k_with "m call ref" => (first | (k_here; (with_reducible show wpAny _ _ (call (Value.ref 939) _) _ _ _); k_dflt (refine' Spec.tk ‹Spec _ 939 _ _ _ _ _› ?kB ?kF ?kX ?kN ?kS ?kR ?kT ?kK ?kD ?kU ?_; kwd_inv); k_dflt (rintro v' l' h' tk' hP' F' N' ne'); (simp only [List.append_nil] at N'); clear ne'; (try dsimp only)) | fail "row")
  trivial
/-- what chosen_program gives, _law_asked gives -/
theorem asked_as {w : World} {r : Addr} {px fl : Str} {tx tf : Nat} {foot : Led} {P : Value → Led → Prop} (S : Spec w 939 [.ref r, .str px tx, .str fl tf] foot 64 520 P) :
    Spec w 1090 [.ref r, .str px tx, .str fl tf] foot 70 540 P := by
  intro mean mg mb dp un gd cn cs a ccd cl outer A₀ base h₀ L m s Q E B F X0 N T hk hd hu ret
  ktr_unf
  k_steps
  k_dflt (refine' spec_fin ret (by assumption) (by assumption) (by assumption) (by assumption) (by assumption) (by assumption) (fun _ h => h))
-- part T2
noncomputable abbrev matchObj (z : Nat) (mv lv : Value) : Obj := tupObj [.str (Str.ofString "match") z, mv, lv]
local macro_rules | `(tactic| k_handed) => `(tactic| k_extra "n k_handed")
theorem rowsT2_1 : True := by
  k_with "n k_handed" => (first | (assumption) | fail "row")
  trivial
/-- the keys of a table are tuples: all else may be left out -/
theorem PatTab.shrink {w : World} {X l : Led} {o : Obj} {xs : List (List Str × Addr × Value)} (T : PatTab w l o xs) (h : ∀ q ∈ l, q ∈ X ∨ q.2.cls ≠ .type "tuple") : PatTab w X o xs := by
  obtain ⟨c, es, ep, d, e, n, k⟩ := T
  refine ⟨c, es, ep, d, e, n, fun x hx => ?_⟩
  obtain ⟨ok, t, hm | hm⟩ := k x hx
  · rcases h _ hm with q | q
    · exact ⟨ok, t, .inl q⟩
    · exact absurd t.1 q
  · exact ⟨ok, t, .inr hm⟩
set_option maxHeartbeats 4000000 in
theorem set_match_spec {w : World} {tk tl : Nat → Nat} {ov ol : Nat → Value} {r d lim ld sv fr dP : Addr} {mv lv tv pv9 : Value} {st : Int} {u ul zf zs : Nat} {oP : Obj} {X : Led} {xs : List (List Str × Addr × Value)} {vs : List Value} (T0 : PatTab w X oP xs) (lo : (dP == sysModules) = false) (hl : (pv xs kLast).getD .none = lv)
    (hne : RunNe r d lim ld fr dP X) (hsd : @Ne Nat sv d) (hsP : @Ne Nat sv dP) (hsr : @Ne Nat sv r) (hsl : @Ne Nat sv lim) (hsf : @Ne Nat sv fr) (hsld : @Ne Nat sv ld) (hsX : AllNe sv X) (hmv : handedIn mv = true) (hz : xs.length ≤ 900) (hv : vs.length ≤ 100) :
    Spec w 196 [.ref r, tv, pv9] ((sv, listOf vs.toArray zs) :: runLed w tk tl ov ol r d lim ld sv fr dP mv st u ul zf oP X) 10 160 (fun v l => v = .none ∧ ∃ a z zs' oP', l = (a, matchObj z mv lv) :: (sv, listOf (vs.toArray.push (.ref a)) zs') :: runLed w tk tl ov ol r d lim ld sv fr dP tv st u ul zf oP' X ∧ PatTab w ((a, matchObj z mv lv) :: X) oP' (storedH xs kLast 175 pv9)) := by
  intro mean mg mb dp un gd cn cs a ccd cl outer A₀ base h₀ L m s Q E B F X0 N T hk hd hu ret
  simp only [runLed, List.cons_append, List.nil_append] at N ret ⊢
  obtain ⟨n1, n2, n3, n4, n5, n6, n7, n8⟩ := hne
  ktr_unf
  k_steps
  subst hl
  k_dflt (refine' spec_fin ret (by assumption) (by assumption) (by assumption) (by assumption) (by assumption) ⟨rfl, _, _, _, _, rfl, PatTab.mono2 (by assumption) (sub_cons sub_refl)⟩ ?_; (all_goals (try rw [List.push_toArray])); kt_eqs)
theorem rowsT2_2 : True := by
  k_with "n k_handed" => (first | (assumption) | fail "row")
  trivial
/-- run.match and the last pattern as they stood -/
theorem undo_spec {w : World} {tk tl : Nat → Nat} {ov ol : Nat → Value} {r d lim ld sv fr dP a9 : Addr} {mv lv mv' : Value} {st : Int} {u ul zf z : Nat} {oP : Obj} {X : Led} {xs : List (List Str × Addr × Value)} (T0 : PatTab w X oP xs) (lo : (dP == sysModules) = false)
    (hne : RunNe r d lim ld fr dP X) (hz : xs.length ≤ 950) (hm : (a9, matchObj z mv' lv) ∈ X) :
    Spec w 273 [.ref r, .ref a9] (runLed w tk tl ov ol r d lim ld sv fr dP mv st u ul zf oP X) 10 160 (fun v l => v = .none ∧ ∃ oP', l = runLed w tk tl ov ol r d lim ld sv fr dP mv' st u ul zf oP' X ∧ PatTab w X oP' (storedH xs kLast 175 lv)) := by
  intro mean mg mb dp un gd cn cs a ccd cl outer A₀ base h₀ L m s Q E B F X0 N T hk hd hu ret
  simp only [runLed, List.cons_append, List.nil_append] at N ret ⊢
  obtain ⟨n1, n2, n3, n4, n5, n6, n7, n8⟩ := hne
  have hda : @Ne Nat a9 d := (allNe_at n1 _ hm).symm
  have hdP : @Ne Nat a9 dP := (allNe_at n2 _ hm).symm
  ktr_unf
  rename News _ _ _ _ => N9
  replace N9 := News.cons9 N9 hm (by kt_eqs)
  k_steps
  k_dflt (refine' spec_fin ret (by assumption) (by assumption) (by assumption) (by assumption) (by assumption) ⟨rfl, _, rfl, by assumption⟩ ?_; kt_eqs)
theorem rowsT2_3 : True := by
  k_with "m call ref" => (first | (k_here; (with_reducible show wpAny _ _ (call (Value.ref 273) _) _ _ _); k_dflt (refine' Spec.tk (undo_spec ?t0 ?lo ?hn ?hz ?hm) ?kB ?kF ?kX ?kN ?kS ?kR ?kT ?kK ?kD ?kU ?_; kwd_inv; (case t0 => exact PatTab.mono2 (by assumption) (by kt_eqs)); (case lo => assumption); (case hn => refine ⟨?_, ?_, ?_, ?_, ?_, ?_, ?_, ?_⟩ <;> repeat' (first | assumption | exact allNe_nil | refine' allNe_cons ?_ ?_ | k_ne)); (case hz => tb_rel); (case hm => first | assumption | k_mem)); k_dflt (rintro v' l' h' tk' ⟨e1', oP', e2', T'⟩ F' N' ne'); subst e1'; subst e2'; (simp only [runLed, List.cons_append, List.nil_append, List.append_nil] at N'); clear ne'; (try dsimp only); (try k_sweep)) | fail "row")
  trivial
-- part T3
/-- the saves of the run -/
inductive SavesAre (X : Led) : List Value → List (Value × Value) → Prop
  | nil : SavesAre X [] []
  | snoc {ws : List Value} {sts : List (Value × Value)} {a : Addr} {z : Nat} {mv lv : Value} : SavesAre X ws sts → (a, matchObj z mv lv) ∈ X → SavesAre X (ws ++ [.ref a]) (sts ++ [(mv, lv)])
theorem SavesAre.len {X : Led} {ws : List Value} {sts : List (Value × Value)} (h : SavesAre X ws sts) : ws.length = sts.length := by
  induction h with
  | nil => rfl
  | snoc _ _ ih => rw [List.length_append, List.length_append, ih]; rfl
theorem SavesAre.mono {X Y : Led} {ws : List Value} {sts : List (Value × Value)} (h : SavesAre X ws sts) (s : ∀ q ∈ X, q ∈ Y) : SavesAre Y ws sts := by
  induction h with
  | nil => exact .nil
  | snoc _ m ih => exact .snoc ih (s _ m)
theorem lookup_two {y a b : Str} {u v : Value} : List.lookup y [(a, u), (b, v)] = if y = a then some u else if y = b then some v else none := by
  by_cases h : y = a
  · subst h; simp
  · by_cases h' : y = b
    · subst h'; simp [List.lookup, h, beq_false_of_ne h]
    · simp [List.lookup, h, h', beq_false_of_ne h, beq_false_of_ne h']
theorem pop_end {w : World} {A : Around} {E : Value → Shared → Prop} {s : Shared} {h₀ : Heap} {L D : Addr} {m : Str → Option Value} {news news' : Led} {n : Nat} {us : List Value} {y : Value} {Q : Value → Shared → Prop} (F : Fr h₀ L s.heap m) (N : News h₀ L s.heap news) (U : Upd D (listOf (us ++ [y]).toArray n) (listOf us.toArray (n + 1)) news news')
    (hz : us.length + 1 ≤ sizeLine) (h : ∀ h', Fr h₀ L h' m → News h₀ L h' news' → Q y { s with heap := h' }) : wpAny (model pE w) A (call (.builtin "list.pop") [.ref D]) Q E s :=
  kl_pop F N (by simpa using kpa_last y us) U (by simpa using hz) h
/-- the dict of the patterns, the last one but one -/
noncomputable def TabTo (xs xs' : List (List Str × Addr × Value)) (mv lv mv' lv' : Value) (sts : List (Value × Value)) : Prop :=
  xs'.length ≤ xs.length + sts.length ∧ (∀ k, k ≠ kLast → pv xs' k = pv xs k) ∧ (pv xs kLast).getD .none = lv ∧ (pv xs' kLast).getD .none = lv' ∧ (mv', lv') = (sts ++ [(mv, lv)]).headD (mv, lv)
theorem TabTo.one {xs xs' : List (List Str × Addr × Value)} {mv lv mv' lv' mv2 lv2 : Value} {pop : List (Value × Value)} (h : TabTo xs xs' mv lv mv' lv' pop) : TabTo xs (storedH xs' kLast 175 lv2) mv lv mv2 lv2 ((mv2, lv2) :: pop) := by
  obtain ⟨h1, h2, h3, h4, h5⟩ := h
  refine ⟨Nat.le_trans (storedH_le h1) (by rw [List.length_cons]; omega), fun k hk => ?_, h3, ?_, rfl⟩
  · rw [pv_stored, if_neg (Ne.symm hk)]; exact h2 k hk
  · rw [pv_stored, if_pos rfl]; rfl
noncomputable abbrev leaveMap (o : Option Value) (r : Addr) (mark : Int) (tm : Nat) : Str → Option Value := fun y => if y = Str.ofString "save" then o else if y = Str.ofString "run" then some (.ref r) else if y = Str.ofString "mark" then some (.int mark tm) else none
theorem leave_map0 {r : Addr} {mark : Int} {tm : Nat} {y : Str} : List.lookup y [(Str.ofString "mark", .int mark tm), (Str.ofString "run", .ref r)] = leaveMap none r mark tm y := by
  rw [lookup_two]
  have h1 : Str.ofString "mark" ≠ Str.ofString "save" := by decide
  have h2 : Str.ofString "run" ≠ Str.ofString "save" := by decide
  have h3 : Str.ofString "mark" ≠ Str.ofString "run" := by decide
  by_cases e1 : y = Str.ofString "save"
  · subst e1; simp [leaveMap, Ne.symm h1, Ne.symm h2]
  · by_cases e2 : y = Str.ofString "run"
    · subst e2; simp [leaveMap, h2, Ne.symm h3]
    · simp [leaveMap, e1, e2]
theorem rowsT3_1 : True := by
  k_with "m call builtin:list.pop" => (first | (k_here; (with_reducible show wpAny _ _ (call (Value.builtin _) [Value.ref _]) _ _ _); k_dflt (refine' pop_end ?F ?N ?U ?z ?_; (case F => k_asm); (case N => k_asm); (case U => k_upd); (case z => (rw [sizeLine_eq]; (try simp only [List.length_append, List.length_cons, List.length_nil]); omega))); intro h' F' N'; (try dsimp only [List.nil_append, List.cons_append] at N')) | fail "row")
  k_with "m call builtin:len" => (first | (k_here; (with_reducible show wpAny _ _ (call (Value.builtin "len") [Value.ref _]) _ _ _); k_dflt (refine' len_list (News.isList ?N ?q) ?z ?_; (case N => k_asm); (case q => k_mem); (case z => (simp only [List.size_toArray, List.length_append, List.length_cons, List.length_nil]; omega))); (try intro _); (try simp only [List.size_toArray])) | fail "row")
  k_with "m WhlIf" => (first | (first | (refine WhlIf.yes (decide_eq_true (by assumption)) ?_) | (refine WhlIf.no (decide_eq_false (by assumption)) ?_)) | fail "row")
  k_with "m exec While Compare" => (first | (k_here; k_dflt (refine whl_start 0 ?_)) | fail "row")
  k_with "m exec While" => (first | (k_here; k_dflt (refine whl_start 0 ?_)) | fail "row")
  k_with "m WhlRest" => (first | ((with_reducible show WhlRest _ _ _ _ _ _ _ _ _ 0 _); refine Hold.out ?_) | fail "row")
  trivial
set_option maxHeartbeats 4000000 in
theorem leave_spec {w : World} {tw tl : Nat → Nat} {ov ol : Nat → Value} {r d lim ld sv fr dP : Addr} {mv lv : Value} {st mark : Int} {u ul zf zs tm : Nat} {oP : Obj} {X : Led} {xs : List (List Str × Addr × Value)} {vs ws : List Value} {sts : List (Value × Value)} (T0 : PatTab w X oP xs) (lo : (dP == sysModules) = false) (hl : (pv xs kLast).getD .none = lv)
    (hne : RunNe r d lim ld fr dP X) (hsd : @Ne Nat sv d) (hsP : @Ne Nat sv dP) (hsr : @Ne Nat sv r) (hsl : @Ne Nat sv lim) (hsf : @Ne Nat sv fr) (hsld : @Ne Nat sv ld) (hsX : AllNe sv X) (hz : xs.length + sts.length ≤ 900) (hv : vs.length + sts.length ≤ 100) (hS : SavesAre X ws sts) (hm : (vs.length : Int) = mark) :
    Spec w 288 [.ref r, .int mark tm] ((sv, listOf (vs ++ ws).toArray zs) :: runLed w tw tl ov ol r d lim ld sv fr dP mv st u ul zf oP X) 14 200 (fun v l => v = .none ∧ ∃ zs' oP' xs' mv' lv', l = (sv, listOf vs.toArray zs') :: runLed w tw tl ov ol r d lim ld sv fr dP mv' st u ul zf oP' X ∧ PatTab w X oP' xs' ∧ TabTo xs xs' mv lv mv' lv' sts) := by
  intro mean mg mb dp un gd cn cs a ccd cl outer A₀ base h₀ L m s Q E B F X0 N T hk hd hu ret
  simp only [runLed, List.cons_append, List.nil_append] at N ret ⊢
  ktr_unf
  k_steps
  refine Hold.go (whl_ind (fun n s' => ∃ h tk o ws sts' pop zs mv' lv' oP xs', n = sts'.length ∧ s' = { s with heap := h, toks := tk } ∧ Fr g' L' h (leaveMap o r mark tm) ∧
    News g' L' h ((sv, listOf (vs ++ ws).toArray zs) :: runLed w tw tl ov ol r d lim ld sv fr dP mv' st u ul zf oP X) ∧ PatTab w X oP xs' ∧ SavesAre X ws sts' ∧ sts = sts' ++ pop ∧ TabTo xs xs' mv lv mv' lv' pop) ?_ sts.length _ ?_)
  · rintro n s' IH ⟨h1, tk1, o1, ws1, sts1, pop1, zs1, mv1, lv1, oP1, xs1, rfl, rfl, F1, N1, T1, S1, e1, V1⟩
    have hne9 := hne
    obtain ⟨n1, n2, n3, n4, n5, n6, n7, n8⟩ := hne9
    have hV1 := V1.1
    simp only [runLed] at N1
    cases S1 with
    | nil =>
      have hmk : ¬ mark < ((vs.length : Nat) : Int) := by omega
      simp only [List.append_nil] at N1
      k_steps
      have e2 : sts = pop1 := by rw [e1]; rfl
      subst e2
      k_dflt (refine' spec_fin ret (by assumption) (by assumption) (by assumption) (by assumption) (by assumption) ⟨rfl, _, _, _, _, _, rfl, T1, V1⟩ ?_; kt_eqs)
    | @snoc ws2 sts2 a2 z2 mv2 lv2 S2 m2 =>
      rw [← List.append_assoc] at N1
      have hP2 : @Ne Nat dP a2 := allNe_at n2 _ m2
      have hS2 := S2.len
      have hlen : sts.length = sts2.length + 1 + pop1.length := by rw [e1]; simp; omega
      have hx1 : xs1.length ≤ 950 := by omega
      have hmk : mark < (((vs ++ ws2 ++ [Value.ref a2]).length : Nat) : Int) := by simp only [List.length_append, List.length_cons, List.length_nil]; omega
      have N2 := News.cons9 N1 m2 (by kt_eqs)
      clear N1
      k_steps
      rename Fr _ _ _ _ => F8
      rename News _ _ _ _ => N8
      rename PatTab _ _ _ (storedH _ _ _ _) => T8
      exact Hold.go (IH _ _ (by rw [List.length_append]; exact Nat.lt_succ_self _) ⟨_, _, some (.ref a2), ws2, sts2, (mv2, lv2) :: pop1, _, _, _, _, _, rfl, rfl, Fr.map9 F8 (fun y => by simp only [leaveMap, upd9]; split <;> rfl), News.sub9 N8 (by kt_eqs), T8.shrink (List.forall_mem_cons.mpr ⟨.inl m2, List.forall_mem_cons.mpr ⟨.inr (by simp), fun q hq => .inl hq⟩⟩), S2, by rw [e1]; simp, V1.one⟩)
  · rename Fr _ _ _ (fun y => List.lookup y _) => F8
    rename News _ _ _ _ => N8
    exact ⟨_, _, none, ws, sts, [], _, _, _, _, xs, rfl, rfl, Fr.map9 F8 (fun y => leave_map0), N8, T0, hS, by simp, Nat.le_refl _, fun _ _ => rfl, hl, hl, rfl⟩
-- part T4
section
open LCg
variable {prog : Program} {w : World} {A : Around} {E : Value → Shared → Prop} {s : Shared} {h₀ : Heap} {L : Addr} {m : Str → Option Value} {env : Env}
/-- the source of a comprehension without a test: a text of ASCII signs, the signs written out -/
noncomputable def SrcU (prog : Program) (w : World) (A : Around) (h₀ : Heap) (L : Addr) (m : Str → Option Value) (env : Env) (elt : Expr) (x : Str) (scope : Scope) (cl : List (Str × Addr)) (zs : List Str) (Fin : Shared → List Value → Led → Prop) (xv : Value) (s₁ : Shared) : Prop :=
  ∃ y t news, xv = .str y t ∧ A.handled = none ∧ Fr h₀ L s₁.heap m ∧ News h₀ L s₁.heap news ∧ y.cps.all (· < 128) = true ∧ y.cps.size ≤ sizeLine ∧ y.cps.size = zs.length ∧ (∀ (i c : Nat), y.cps[i]? = some c → zs[i]? = some (⟨#[c]⟩ : Str)) ∧
    ∀ g, CompRest prog w A h₀ L m env elt x scope cl { s₁ with heap := g } (fun _ => True) (fun (i : Nat) v => ∃ u z, zs[i]? = some z ∧ v = .str z u) (Fin { s₁ with heap := g }) zs.length 0 [] news
theorem ListComp_V {elt iter : Expr} {x : Str} {px : Pos} {scope : Scope} {cl : List (Str × Addr)} {pos : Pos} {Q : Value → Shared → Prop} (zs : List Str) (F₀ : Fr h₀ L s.heap m)
    (hclos : closureFor scope env = pure cl) (hcell : ∀ y ∈ scope.names, y.2 ≠ .cell) (hkind : scope.kind = .function)
    (hnames : ∀ y ∈ scope.names, y.2 = .local → scope.names.lookup y.1 = some .local) (hx : scope.names.lookup x = some .local)
    (h : wpAny (model prog w) A (eval iter env) (SrcU prog w A h₀ L m env elt x scope cl zs (fun s₂ => FinE h₀ L m s₂ Q)) E s)
    (hs : ∀ x, foldedSetIterable iter env x = pure x := by intro _; rfl) :
    wpAny (model prog w) A (eval (.ListComp elt [⟨.Name x px, iter, [], 0⟩] scope pos) env) Q E s := by
  rw [eval_ListComp]
  refine wpAny_comprehension_free (use := none) rfl hs hclos hkind hnames (wpAny_mono h (fun xv s₁ h₁ => ?_) fun _ _ e => e)
  obtain ⟨y, t, news, rfl, hh, F, N, ha, hsz, hlen, hz, R⟩ := h₁
  refine wpAny_pyIter_ascii ha ?_
  have W := Walks.strAscii (prog := prog) (w := w) (A := A) hh s₁.heap.objs.size y t
  have W' : Walks prog w A s₁.heap.objs.size [s₁.heap.objs.size] [s₁.heap.objs.size] zs.length (fun (i : Nat) v => ∃ u z, zs[i]? = some z ∧ v = .str z u) (fun i h => h.IsStrIter s₁.heap.objs.size "str_ascii_iterator" y t i) := by
    rw [← hlen]
    exact { sub := W.sub, frame := W.frame, item := fun i s Q E hi st hQ => W.item i s Q E hi st fun v h' tk hP => hQ v h' tk (by
      obtain ⟨c, u, hc, rfl⟩ := hP
      exact ⟨u, _, hz _ _ hc, rfl⟩), done := W.done, self := W.self }
  refine block_U W' (hlen ▸ hsz) (fun i h st => by obtain ⟨o, e, _⟩ := st; exact ⟨o, e⟩) (fun i h h' o nw st e1 e2 _ _ _ => W.frame i h h' st fun b hb o' e => ?_) hcell hkind hx ⟨_, Heap.get?_push_size _ rfl, rfl, rfl⟩ (fun b hb => ?_)
    (F.push _) (N.grown fun _ _ e => Heap.get?_push_of_some _ e) (Nat.ne_of_lt F.ns.lt) (next_is_new F) (fun p hp => Nat.ne_of_lt (Heap.lt_size (N p hp).1)) trivial (R _) ?_
  · rw [List.mem_singleton.mp hb] at e ⊢
    rw [e1] at e
    rw [e2, e]
  · rw [List.mem_singleton.mp hb]
    show s₁.heap.objs.size < (s₁.heap.push _).objs.size
    rw [Heap.size_push]; exact Nat.lt_succ_self _
  · intro D C h tk m' ys news' F' N' o1 hn hC₀ hD₀ hCL hDL hCD offC fin
    refine ⟨m', hn, fun h'' hs'' => fin D h'' tk (F'.change hs'' hCL hC₀) (fun p hp => ?_) o1⟩
    refine ⟨hs''.extBut _ _ ?_ (N' p hp).1, (N' p hp).2⟩
    rcases List.mem_cons.mp hp with rfl | hp
    · exact Ne.symm hCD
    · exact offC p hp
end
theorem Signs.len4 {fb : Bool} {X : Led} {cs : List Str} {vs : List Value} (h : Signs fb X cs vs) : cs.length = vs.length := by
  induction h with
  | nil => rfl
  | cons _ _ ih => rw [List.length_cons, List.length_cons, ih]
/-- a comprehension that makes a sign's tuple for each sign of a text -/
theorem comp_signs {w : World} {A : Around} {h₀ : Heap} {L : Addr} {m : Str → Option Value} {env : Env} {elt : PySem.Expr} {x : Str} {scope : Scope} {cl : List (Str × Addr)} {s : Shared} {Fin : List Value → Led → Prop} {news : Led} {zs : List Str} (b : Bool)
    (turn : ∀ (X : Led) (z : Str) u I oI C oC D m₂ ys h tk (E' : Value → Shared → Prop), LCg.NsObj oC m₂ → m₂ x = some (.str z u) → Fr h₀ L h m → News h₀ L h ((I, oI) :: (C, oC) :: (D, LCg.lst ys) :: (X ++ news)) → LCg.Off3 I C D (X ++ news) → ((@Ne Nat I C) ∧ (@Ne Nat I D) ∧ (@Ne Nat C D)) →
      wpAny (model pE w) A (eval elt (compEnvC scope cl C env)) (LCg.CompEnd h₀ L m { s with heap := h, toks := tk } I oI C oC D (LCg.lst ys) (fun _ => True) (fun y news' => ∃ t z1 z2, y = .ref t ∧ news' = (t, signObj z1 z z2 b) :: (X ++ news))) E' { s with heap := h, toks := tk })
    (fin : ∀ ys X, Signs b X zs ys → TupsIn X → Fin ys (X ++ news)) : LCg.CompRest pE w A h₀ L m env elt x scope cl s (fun _ => True) (fun (i : Nat) v => ∃ u z, zs[i]? = some z ∧ v = .str z u) Fin zs.length 0 [] news := by
  have key : ∀ (j i : Nat) (ys : List Value) (X : Led), i + j = zs.length → Signs b X (zs.take i) ys → TupsIn X → LCg.CompRest pE w A h₀ L m env elt x scope cl s (fun _ => True) (fun (i : Nat) v => ∃ u z, zs[i]? = some z ∧ v = .str z u) Fin j i ys (X ++ news) := by
    intro j
    induction j with
    | zero =>
      intro i ys X hi hS hX
      have e : i = zs.length := by omega
      subst e
      rw [List.take_length] at hS
      exact LCg.CompRest.zero (fin ys X hS hX)
    | succ j ih =>
      intro i ys X hi hS hX
      refine LCg.CompRest.succ ?_
      intro v I oI C oC D m₂ h tk E' hv hC hx F N off ne
      obtain ⟨u, z, hz, hv'⟩ := hv
      rw [hv'] at hx
      refine wpAny_mono (turn X z u I oI C oC D m₂ ys h tk E' hC hx F N off ne) (fun y s₂ hq => ?_) fun _ _ e => e
      obtain ⟨h', tk', nw, e, F', N', off', hS', t, z1, z2, hy, hn⟩ := hq
      subst hn
      refine ⟨h', tk', _, e, F', N', off', hS', ?_⟩
      subst hy
      refine ih (i + 1) _ ((t, signObj z1 z z2 b) :: X) (by omega) ?_ (List.forall_mem_cons.mpr ⟨rfl, hX⟩)
      rw [List.take_add_one, hz]
      exact (hS.mono fun q hq => .tail _ hq).snoc (.head _)
  exact key zs.length 0 [] [] (by omega) .nil (fun _ h => nomatch h)
noncomputable def KeyOf (j : Int) (cs : List Str) : Prop := (j = 0 ∧ cs = [Str.ofString "a"]) ∨ (j = 1 ∧ cs = [Str.ofString "b"]) ∨ (j = 2 ∧ cs = [Str.ofString "b", Str.ofString "a", Str.ofString "b"]) ∨ (j = 3 ∧ cs = [])
noncomputable abbrev keyObj (j : Int) (tj : Nat) (b : Bool) : Obj := tupObj [.int j tj, .bool b]
theorem letters {j : Int} {cs : List Str} {px : Str} (h : KeyOf j cs) (p : PatAt j px) : px.cps.all (· < 128) = true ∧ px.cps.size ≤ 3 ∧ px.cps.size = cs.length ∧ (List.range cs.length).all (fun i => (px.cps[i]?.map fun c => (⟨#[c]⟩ : Str)) == cs[i]?) = true := by
  rcases h with ⟨rfl, rfl⟩ | ⟨rfl, rfl⟩ | ⟨rfl, rfl⟩ | ⟨rfl, rfl⟩ <;> rcases p with ⟨h, rfl⟩ | ⟨h, rfl⟩ | ⟨h, rfl⟩ | ⟨h, rfl⟩ | ⟨h, rfl⟩ <;> first | omega | decide +kernel
theorem SrcU.intro {w : World} {A : Around} {h₀ : Heap} {L : Addr} {m : Str → Option Value} {env : Env} {elt : PySem.Expr} {x : Str} {scope : Scope} {cl : List (Str × Addr)} {Fin : Shared → List Value → Led → Prop} {j : Int} {cs : List Str} {px : Str} {t : Nat} {news : Led} {s₁ : Shared} (h : KeyOf j cs) (p : PatAt j px)
    (hh : A.handled = none) (F : Fr h₀ L s₁.heap m) (N : News h₀ L s₁.heap news)
    (k : ∀ g, LCg.CompRest pE w A h₀ L m env elt x scope cl { s₁ with heap := g } (fun _ => True) (fun (i : Nat) v => ∃ u z, cs[i]? = some z ∧ v = .str z u) (Fin { s₁ with heap := g }) cs.length 0 [] news) :
    SrcU pE w A h₀ L m env elt x scope cl cs Fin (.str px t) s₁ := by
  obtain ⟨h1, h2, h3, h4⟩ := letters h p
  refine ⟨px, t, news, rfl, hh, F, N, h1, by rw [sizeLine_eq]; omega, h3, fun i c e => ?_, k⟩
  have hi : i < cs.length := by
    rw [← h3]
    rcases Nat.lt_or_ge i px.cps.size with h | h
    · exact h
    · rw [Array.getElem?_eq_none h] at e; cases e
  have := List.all_eq_true.mp h4 i (List.mem_range.mpr hi)
  rw [e] at this
  exact (beq_iff_eq.mp this).symm
-- part T5
theorem comp_end {h₀ h : Heap} {L I C D t : Addr} {m : Str → Option Value} {s : Shared} {oI oC oD : Obj} {z1 z2 tk : Nat} {z : Str} {b : Bool} {e1 e2 e3 : Addr × Obj} {X : Led} {R : Prop} (F : Fr h₀ L h m) (N : News h₀ L h ((t, signObj z1 z z2 b) :: (I, oI) :: (C, oC) :: (D, oD) :: e1 :: e2 :: e3 :: X)) (l : I < t ∧ C < t ∧ D < t ∧ R) (off : LCg.Off3 I C D (X ++ [e1, e2, e3])) :
    LCg.CompEnd h₀ L m s I oI C oC D oD (fun _ => True) (fun y news' => ∃ t z1 z2, y = .ref t ∧ news' = (t, signObj z1 z z2 b) :: (X ++ [e1, e2, e3])) (.ref t) { s with heap := h, toks := tk } := by
  refine LCg.CompEnd.intro F N ((t, signObj z1 z z2 b) :: (X ++ [e1, e2, e3])) (fun q hq => ?_) (And.intro ⟨Nat.ne_of_gt l.1, Nat.ne_of_gt l.2.1, Nat.ne_of_gt l.2.2.1⟩ off) trivial ⟨_, _, _, rfl, rfl⟩
  simp only [List.mem_cons, List.mem_append, List.not_mem_nil, or_false] at hq ⊢
  rcases hq with h | h | h | h | h | h | h | h <;> simp [h]
theorem add_two {w : World} {A : Around} {E : Value → Shared → Prop} {s : Shared} {h₀ : Heap} {L a b : Addr} {m : Str → Option Value} {news : Led} {vs ws : List Value} {n k : Nat} {Q : Value → Shared → Prop} (F : Fr h₀ L s.heap m) (N : News h₀ L s.heap news) (ha : (a, listOf vs.toArray n) ∈ news) (hb : (b, listOf ws.toArray k) ∈ news) (hz : vs.length + ws.length ≤ 100)
    (h : ∀ D h', Fr h₀ L h' m → News h₀ L h' ((D, listOf (vs ++ ws).toArray 0) :: news) → Q (.ref D) { s with heap := h' }) : wpAny (model pE w) A (binaryOp .Add (.ref a) (.ref b)) Q E s :=
  kmk_add_lit F N (News.isList N ha) (News.isList N hb) rfl (fun D h' F' N' _ => h D h' F' N') (by rw [sizeLine_eq]; show vs.length + ws.length ≤ _; omega)
theorem rowsT5_1 : True := by
  k_with "m binaryOp Add ref ref" => (first | (k_here; (with_reducible show wpAny _ _ (binaryOp _ (Value.ref _) (Value.ref _)) _ _ _); k_dflt (refine' add_two ?F ?N ?a ?b ?z ?_; (case F => k_asm); (case N => k_asm); (case a => k_mem); (case b => k_mem); (case z => first | assumption | (simp only [List.length_cons, List.length_nil]; omega))); intro D' h' F' N') | fail "row")
  k_with "m eval ListComp" => (first | (k_here; k_dflt (refine ListComp_V ‹List Str› (by k_asm) (by with_unfolding_all rfl) (by decide) (by rfl) (by decide) (by rfl) ?_)) | fail "row")
  k_with "m SrcU" => (first | (k_here; k_dflt (refine SrcU.intro (by assumption) (by assumption) (by rfl) (by k_asm) (by k_asm) ?_); intro g') | fail "row")
  k_with "m CompRest" => (first | (refine Hold.out ?_) | fail "row")
  trivial
set_option maxHeartbeats 4000000 in
theorem due_spec {w : World} {kt : Addr} {j : Int} {tj : Nat} {b : Bool} {cs' : List Str} (hj : KeyOf j cs') :
    Spec w 1083 [.ref kt] [(kt, keyObj j tj b)] 6 100 (Post fun v l X => ∃ f e ze z vs, v = .ref f ∧ l = [(f, listOf (vs ++ [Value.ref e]).toArray z), (e, tupObj [.str (Str.ofString "end") ze]), (kt, keyObj j tj b)] ∧ Signs b X cs' vs) := by
  intro mean mg mb dp un gd cn cs a ccd cl9 outer A₀ base h₀ L m s Q E B F X N T hk hd hu ret
  ktr_unf
  have j0 : 0 ≤ j := by rcases hj with ⟨rfl, _⟩ | ⟨rfl, _⟩ | ⟨rfl, _⟩ | ⟨rfl, _⟩ <;> decide
  have j1 : j < 5 := by rcases hj with ⟨rfl, _⟩ | ⟨rfl, _⟩ | ⟨rfl, _⟩ | ⟨rfl, _⟩ <;> decide
  k_steps
  refine Hold.go (comp_signs b ?turn ?fin)
  case turn =>
    intro X1 z1 u1 I1 oI1 C1 oC1 D1 m1 ys1 h1 tk1 E1 hC1 hx1 F1 N1 off1 ne1
    replace N1 := News.sub9 (l' := _ :: _ :: _ :: (_ :: _ :: _ :: X1)) N1 (List.forall_mem_cons.mpr ⟨.head _, List.forall_mem_cons.mpr ⟨.tail _ (.head _), List.forall_mem_cons.mpr ⟨.tail _ (.tail _ (.head _)), List.forall_mem_cons.mpr ⟨.tail _ (.tail _ (.tail _ (List.mem_append_right _ (.head _)))), List.forall_mem_cons.mpr ⟨.tail _ (.tail _ (.tail _ (List.mem_append_right _ (.tail _ (.head _))))), List.forall_mem_cons.mpr ⟨.tail _ (.tail _ (.tail _ (List.mem_append_right _ (.tail _ (.tail _ (.head _)))))), fun q hq => .tail _ (.tail _ (.tail _ (List.mem_append_left _ hq)))⟩⟩⟩⟩⟩⟩)
    k_steps
    rename (_ < _ ∧ _) => l9
    rename News _ _ _ _ => N9
    exact comp_end (by assumption) N9 l9 off1
  case fin =>
    intro ys1 X1 hS1 hX1
    have hl1 : ys1.length ≤ 90 := by
      rw [← hS1.len4]
      rcases hj with ⟨_, rfl⟩ | ⟨_, rfl⟩ | ⟨_, rfl⟩ | ⟨_, rfl⟩ <;> decide
    unfold LCg.FinE
    intro D2 h2 tk2 F2 N2 o2
    replace N2 := News.sub9 (l' := _ :: _ :: _ :: _ :: X1) N2 (List.forall_mem_cons.mpr ⟨.head _, List.forall_mem_cons.mpr ⟨.tail _ (List.mem_append_right _ (.head _)), List.forall_mem_cons.mpr ⟨.tail _ (List.mem_append_right _ (.tail _ (.head _))), List.forall_mem_cons.mpr ⟨.tail _ (List.mem_append_right _ (.tail _ (.tail _ (.head _)))), fun q hq => .tail _ (List.mem_append_left _ hq)⟩⟩⟩⟩)
    k_steps
    k_dflt (refine' spec_fin ret (by assumption) (by assumption) (by assumption) (by assumption) (by assumption) ⟨_, X1, rfl, hX1, _, _, _, _, _, rfl, rfl, hS1⟩ ?_; kt_eqs)
theorem rowsT5_2 : True := by
  k_with "m call ref" => (first | (k_here; (with_reducible show wpAny _ _ (call (Value.ref 1083) _) _ _ _); k_dflt (refine' Spec.tkX (due_spec ?hj) ?kB ?kF ?kX ?kN ?kS ?kR ?kT ?kK ?kD ?kU ?_; (case hj => assumption); kwd_inv); k_dflt (rintro v' l' X' h' tk' hX' ⟨f', e', _, _, vs', e1', e2', hS'⟩ F' N' ne'); subst e1'; subst e2'; (simp only [List.cons_append, List.nil_append] at N'); clear ne'; (try dsimp only); (try k_sweep)) | fail "row")
  trivial
-- part T6
section
variable {w : World} {A : Around} {E : Value → Shared → Prop} {s : Shared} {h₀ : Heap} {L : Addr} {m : Str → Option Value} {news : Led} {Q : Value → Shared → Prop}
theorem readsAll_app {h : Heap} : ∀ {vs ws : List Value} {xs ys : List PyData} {as bs : List Addr}, ReadsAll h vs xs as → ReadsAll h ws ys bs → ∃ cs, ReadsAll h (vs ++ ws) (xs ++ ys) cs
  | _, _, _, _, _, _, .nil, h2 => ⟨_, h2⟩
  | _, _, _, _, _, _, .cons h1 h3, h2 => let ⟨_, h4⟩ := readsAll_app h3 h2; ⟨_, .cons h1 h4⟩
noncomputable abbrev signData (b : Bool) (c : Str) : PyData := .tuple [.str (Str.ofString "sign"), .str c, .bool b]
noncomputable abbrev rowsData (b : Bool) (cs : List Str) : PyData := .list (cs.map (signData b) ++ [.tuple [.str (Str.ofString "end")]])
theorem reads_signs {h : Heap} {b : Bool} {X : Led} {cs : List Str} {vs : List Value} (hX : ∀ q ∈ X, h.get? q.1 = some q.2) (S : Signs b X cs vs) : ∃ as, ReadsAll h vs (cs.map (signData b)) as := by
  induction S with
  | nil => exact ⟨_, .nil⟩
  | cons h1 _ ih =>
    obtain ⟨as, r⟩ := ih
    exact ⟨_, .cons (reads_tuple_at (hX _ h1) rfl rfl (.cons (.str _ _) (.cons (.str _ _) (.cons (.bool _) .nil)))) r⟩
theorem reads_rows {b : Bool} {X : Led} {cs : List Str} {vs : List Value} {f e : Addr} {z ze : Nat} (N : News h₀ L s.heap news) (hf : (f, listOf (vs ++ [Value.ref e]).toArray z) ∈ news) (he : (e, tupObj [.str (Str.ofString "end") ze]) ∈ news) (hX : ∀ q ∈ X, q ∈ news) (S : Signs b X cs vs) :
    ∃ as, Reads s.heap (.ref f) (rowsData b cs) as := by
  obtain ⟨as, r⟩ := reads_signs (fun q hq => (N q (hX q hq)).1) S
  obtain ⟨bs, r2⟩ := readsAll_app r (.cons (reads_tuple_at (N _ he).1 rfl rfl (.cons (.str _ _) .nil)) .nil)
  exact ⟨_, reads_list_at (N _ hf).1 rfl rfl r2⟩
theorem rows_ne {b : Bool} {j : Int} {X Y : Led} {cs : List Str} {vs ws : List Value} {f e f' e' : Addr} {z ze z' ze' : Nat} (hj : KeyOf j cs) (N : News h₀ L s.heap news)
    (hf : (f, listOf (vs ++ [Value.ref e]).toArray z) ∈ news) (he : (e, tupObj [.str (Str.ofString "end") ze]) ∈ news) (hX : ∀ q ∈ X, q ∈ news) (S : Signs b X cs vs)
    (hf' : (f', listOf (ws ++ [Value.ref e']).toArray z') ∈ news) (he' : (e', tupObj [.str (Str.ofString "end") ze']) ∈ news) (hY : ∀ q ∈ Y, q ∈ news) (S' : Signs b Y cs ws)
    (hu : A.units + 64 < cLine) (h : Q (.bool false) s) : wpAny (model pE w) A (compareOp .NotEq (.ref f) (.ref f')) Q E s := by
  obtain ⟨as, r⟩ := reads_rows N hf he hX S
  obtain ⟨bs, r'⟩ := reads_rows N hf' he' hY S'
  have h1 : SeqAt.shaped (rowsData b cs) = true := by rcases hj with ⟨_, rfl⟩ | ⟨_, rfl⟩ | ⟨_, rfl⟩ | ⟨_, rfl⟩ <;> cases b <;> decide +kernel
  have h2 : (!PyData.eqv (rowsData b cs) (rowsData b cs)) = false := by rcases hj with ⟨_, rfl⟩ | ⟨_, rfl⟩ | ⟨_, rfl⟩ | ⟨_, rfl⟩ <;> cases b <;> decide +kernel
  exact ne_dataH r r' h1 h1 hu (by rw [h2]; exact h)
noncomputable abbrev keyData (K : Int × Bool) : PyData := .tuple [.int K.1, .bool K.2]
theorem reads_key {h : Heap} {k : Addr} {K : Int × Bool} {t : Nat} (e : h.get? k = some (keyObj K.1 t K.2)) : Reads h (.ref k) (keyData K) ([] ++ ([] ++ [])) :=
  reads_tuple_at e rfl rfl (.cons (.int _ _) (.cons (.bool _) .nil))
theorem key_ne {K : Int × Bool} {k k' : Addr} {t t' : Nat} (N : News h₀ L s.heap news) (hk : (k, keyObj K.1 t K.2) ∈ news) (hk' : (k', keyObj K.1 t' K.2) ∈ news) (hu : A.units + 64 < cLine) (h : Q (.bool false) s) :
    wpAny (model pE w) A (compareOp .NotEq (.ref k) (.ref k')) Q E s := by
  have h1 : SeqAt.shaped (keyData K) = true := by obtain ⟨j, b⟩ := K; rfl
  have h2 : (!PyData.eqv (keyData K) (keyData K)) = false := by obtain ⟨j, b⟩ := K; simp [PyData.eqv, PyData.eqvAll]
  exact ne_dataH (reads_key (N _ hk).1) (reads_key (N _ hk').1) h1 h1 hu (by rw [h2]; exact h)
/-- a list of keys -/
inductive KeysAre (X : Led) : List Value → List (Int × Bool) → Prop
  | nil : KeysAre X [] []
  | snoc {ws : List Value} {Ks : List (Int × Bool)} {a : Addr} {t : Nat} {K : Int × Bool} : KeysAre X ws Ks → (a, keyObj K.1 t K.2) ∈ X → KeysAre X (ws ++ [.ref a]) (Ks ++ [K])
theorem KeysAre.mono {X Y : Led} {ws : List Value} {Ks : List (Int × Bool)} (h : KeysAre X ws Ks) (hs : ∀ q ∈ X, q ∈ Y) : KeysAre Y ws Ks := by
  induction h with
  | nil => exact .nil
  | snoc _ m ih => exact .snoc ih (hs _ m)
theorem KeysAre.len {X : Led} {ws : List Value} {Ks : List (Int × Bool)} (h : KeysAre X ws Ks) : ws.length = Ks.length := by
  induction h with
  | nil => rfl
  | snoc _ _ ih => rw [List.length_append, List.length_append, ih]; rfl
theorem reads_keys {h : Heap} {X : Led} {ws : List Value} {Ks : List (Int × Bool)} (hX : ∀ q ∈ X, h.get? q.1 = some q.2) (S : KeysAre X ws Ks) : ∃ as, ReadsAll h ws (Ks.map keyData) as := by
  induction S with
  | nil => exact ⟨_, .nil⟩
  | snoc _ m ih =>
    obtain ⟨as, r⟩ := ih
    rw [List.map_append]
    exact readsAll_app r (.cons (reads_key (hX _ m)) .nil)
theorem keys_lay : ∀ Ks : List (Int × Bool), PyData.canLayAll0 (Ks.map keyData) = true
  | [] => rfl
  | K :: r => by simp [PyData.canLayAll0, PyData.canLay0, keys_lay r]
theorem key_in {K : Int × Bool} {Ks : List (Int × Bool)} (h : (Ks.map keyData).any (fun y => PyData.eqv y (keyData K)) = true) : K ∈ Ks := by
  rw [List.any_map, List.any_eq_true] at h
  obtain ⟨K', hm, e⟩ := h
  obtain ⟨j, b⟩ := K
  obtain ⟨j', b'⟩ := K'
  simp [PyData.eqv, PyData.eqvAll] at e
  rw [← e.1, ← e.2]; exact hm
theorem key_seen {K : Int × Bool} {k sn : Addr} {t z : Nat} {X : Led} {ws : List Value} {Ks : List (Int × Bool)} (N : News h₀ L s.heap news) (hk : (k, keyObj K.1 t K.2) ∈ news) (hs : (sn, listOf ws.toArray z) ∈ news) (hX : ∀ q ∈ X, q ∈ news) (S : KeysAre X ws Ks)
    (hu : A.units + 64 < cLine) (h : ∀ c, (c = true → K ∈ Ks) → Q (.bool c) s) : wpAny (model pE w) A (compareOp .In (.ref k) (.ref sn)) Q E s := by
  obtain ⟨as, r⟩ := reads_keys (fun q hq => (N q (hX q hq)).1) S
  have h2 : (keyData K).canLay0 = true := by obtain ⟨j, b⟩ := K; rfl
  have h3 : (keyData K).depth = 1 := by obtain ⟨j, b⟩ := K; rfl
  exact SeqAt.in_list_reads (reads_list_at (N _ hs).1 rfl rfl r) (reads_key (N _ hk).1) (keys_lay Ks) h2 (by rw [h3]; have := Nat.min_le_right (PyData.depthAll (Ks.map keyData)) 1; omega) (h _ key_in)
end
-- part T7
/-- a program: its key, its address, its ledger -/
noncomputable abbrev PK := (Int × Bool) × Addr × Led
noncomputable def ProgAt (w : World) (X : Led) (p : PK) (kvs : List (Str × Value)) : Prop :=
  ∃ d rl e nm o vs cs ta tb tc td gr tg reg tr z ze, p.2.2 = [(p.2.1, progObj d), (d, progDict w ta tb tc td rl gr tg reg tr nm), (rl, listOf (vs ++ [Value.ref e]).toArray z), (nm, o)] ∧ (e, tupObj [.str (Str.ofString "end") ze]) ∈ X ∧ KeyOf p.1.1 cs ∧ Signs p.1.2 X cs vs ∧ o.IsDictOf (PySem.strKind pE w) kvs ∧ (nm == sysModules) = false
noncomputable def Named (X : Led) (K : Int × Bool) (kvs : List (Str × Value)) : Prop := ∃ kt t, kvs = [(Str.ofString "k", .ref kt)] ∧ (kt, keyObj K.1 t K.2) ∈ X
noncomputable def Stands (w : World) (X : Led) (p : PK) : Prop := ∃ kvs, ProgAt w X p kvs ∧ Named X p.1 kvs
theorem ProgAt.mono {w : World} {X Y : Led} {p : PK} {kvs : List (Str × Value)} (h : ProgAt w X p kvs) (s : ∀ q ∈ X, q ∈ Y) : ProgAt w Y p kvs := by
  obtain ⟨d, rl, e, nm, o, vs, cs, ta, tb, tc, td, gr, tg, reg, tr, z, ze, h1, h2, h3, h4, h5⟩ := h
  exact ⟨d, rl, e, nm, o, vs, cs, ta, tb, tc, td, gr, tg, reg, tr, z, ze, h1, s _ h2, h3, h4.mono s, h5⟩
theorem Named.mono {X Y : Led} {K : Int × Bool} {kvs : List (Str × Value)} (h : Named X K kvs) (s : ∀ q ∈ X, q ∈ Y) : Named Y K kvs := let ⟨kt, t, e, m⟩ := h; ⟨kt, t, e, s _ m⟩
theorem Stands.mono {w : World} {X Y : Led} {p : PK} (h : Stands w X p) (s : ∀ q ∈ X, q ∈ Y) : Stands w Y p := let ⟨kvs, a, b⟩ := h; ⟨kvs, a.mono s, b.mono s⟩
theorem ProgAt.cls {w : World} {X : Led} {p : PK} {kvs : List (Str × Value)} (h : ProgAt w X p kvs) : ∀ q ∈ p.2.2, q.2.cls ≠ .type "tuple" := by
  obtain ⟨d, rl, e, nm, o, vs, cs, ta, tb, tc, td, gr, tg, reg, tr, z, ze, h1, _, _, _, h5, _⟩ := h
  rw [h1]
  exact List.forall_mem_cons.mpr ⟨by simp, List.forall_mem_cons.mpr ⟨by simp, List.forall_mem_cons.mpr ⟨by simp, List.forall_mem_cons.mpr ⟨by rw [dict_cls h5]; decide, List.forall_mem_nil _⟩⟩⟩⟩
theorem ProgAt.key {w : World} {X : Led} {p : PK} {kvs : List (Str × Value)} (h : ProgAt w X p kvs) : ∃ cs, KeyOf p.1.1 cs := by
  obtain ⟨d, rl, e, nm, o, vs, cs, ta, tb, tc, td, gr, tg, reg, tr, z, ze, _, _, h3, _⟩ := h
  exact ⟨cs, h3⟩
noncomputable abbrev progsLed (ps : List PK) : Led := ps.flatMap fun p => p.2.2
/-- what the dict of the patterns bears -/
noncomputable def TabOk (xs : List (List Str × Addr × Value)) (ps : List PK) (lv : Value) : Prop :=
  (pv xs kLast).getD .none = lv ∧ (∀ j b px, PatAt j px → pv xs [px, kept b] = none ∨ ∃ p ∈ ps, p.1 = (j, b) ∧ pv xs [px, kept b] = some (.ref p.2.1)) ∧ (∀ p ∈ ps, ∀ px, PatAt p.1.1 px → pv xs [px, kept p.1.2] = some (.ref p.2.1))
/-- the last match that is told: its key and its program -/
noncomputable def LastIs (ps : List PK) (X : Led) (now lv : Value) : Prop := (now = .none ∧ lv = .none) ∨ ∃ p ∈ ps, ∃ kt t, now = .ref kt ∧ lv = .ref p.2.1 ∧ (kt, keyObj p.1.1 t p.1.2) ∈ X
theorem patOf_of {j : Int} {px : Str} (h : PatAt j px) (h4 : j < 4) : ∃ cs, KeyOf j cs ∧ PatOf px cs := by
  rcases h with ⟨rfl, rfl⟩ | ⟨rfl, rfl⟩ | ⟨rfl, rfl⟩ | ⟨rfl, rfl⟩ | ⟨rfl, rfl⟩
  · exact ⟨_, .inl ⟨rfl, rfl⟩, .inl ⟨rfl, rfl⟩⟩
  · exact ⟨_, .inr (.inl ⟨rfl, rfl⟩), .inr (.inl ⟨rfl, rfl⟩)⟩
  · exact ⟨_, .inr (.inr (.inl ⟨rfl, rfl⟩)), .inr (.inr (.inl ⟨rfl, rfl⟩))⟩
  · exact ⟨_, .inr (.inr (.inr ⟨rfl, rfl⟩)), .inr (.inr (.inr ⟨rfl, rfl⟩))⟩
  · omega
theorem keyOf_one {j : Int} {cs cs' : List Str} (h : KeyOf j cs) (h' : KeyOf j cs') : cs = cs' := by
  rcases h with ⟨rfl, rfl⟩ | ⟨rfl, rfl⟩ | ⟨rfl, rfl⟩ | ⟨rfl, rfl⟩ <;> rcases h' with ⟨h, rfl⟩ | ⟨h, rfl⟩ | ⟨h, rfl⟩ | ⟨h, rfl⟩ <;> first | rfl | (exfalso; revert h; decide)
theorem patAt_one {j : Int} {px py : Str} (h : PatAt j px) (h' : PatAt j py) : px = py := by
  rcases h with ⟨rfl, rfl⟩ | ⟨rfl, rfl⟩ | ⟨rfl, rfl⟩ | ⟨rfl, rfl⟩ | ⟨rfl, rfl⟩ <;> rcases h' with ⟨h, rfl⟩ | ⟨h, rfl⟩ | ⟨h, rfl⟩ | ⟨h, rfl⟩ | ⟨h, rfl⟩ <;> first | rfl | (exfalso; revert h; decide)
theorem patAt_inj {j j' : Int} {px : Str} (h : PatAt j px) (h' : PatAt j' px) : j = j' := by
  rcases h with ⟨rfl, rfl⟩ | ⟨rfl, rfl⟩ | ⟨rfl, rfl⟩ | ⟨rfl, rfl⟩ | ⟨rfl, rfl⟩ <;> rcases h' with ⟨rfl, h⟩ | ⟨rfl, h⟩ | ⟨rfl, h⟩ | ⟨rfl, h⟩ | ⟨rfl, h⟩ <;> first | rfl | (exfalso; revert h; decide)
theorem kept_inj {b b' : Bool} (h : kept b = kept b') : b = b' := by
  cases b <;> cases b' <;> first | rfl | (exfalso; revert h; decide)
theorem kept_ne {b : Bool} {px : Str} : kLast ≠ [px, kept b] ∧ kSigns ≠ [px, kept b] := by
  refine ⟨fun h => ?_, fun h => ?_⟩ <;> (injection h with _ h; injection h with h _; revert h; cases b <;> decide)
theorem signs_ne : kSigns ≠ kLast := by decide
theorem patAt_of {j : Int} {cs : List Str} (h : KeyOf j cs) : ∃ px, PatAt j px := by
  rcases h with ⟨rfl, _⟩ | ⟨rfl, _⟩ | ⟨rfl, _⟩ | ⟨rfl, _⟩
  · exact ⟨_, .inl ⟨rfl, rfl⟩⟩
  · exact ⟨_, .inr (.inl ⟨rfl, rfl⟩)⟩
  · exact ⟨_, .inr (.inr (.inl ⟨rfl, rfl⟩))⟩
  · exact ⟨_, .inr (.inr (.inr (.inl ⟨rfl, rfl⟩)))⟩
/-- after a new program -/
theorem TabOk.new {xs : List (List Str × Addr × Value)} {ps : List PK} {lv v : Value} {j : Int} {b : Bool} {px : Str} {a a' x : Addr} {l : Led} (h : TabOk xs ps lv) (hp : PatAt j px) (hn : pv xs [px, kept b] = none) :
    TabOk (storedH (storedH xs kSigns a v) [px, kept b] a' (.ref x)) (((j, b), x, l) :: ps) lv := by
  obtain ⟨h1, h2, h3⟩ := h
  have e : ∀ k, pv (storedH (storedH xs kSigns a v) [px, kept b] a' (.ref x)) k = if [px, kept b] = k then some (.ref x) else if kSigns = k then some v else pv xs k := fun k => by rw [pv_stored, pv_stored]
  refine ⟨?_, fun j' b' py hy => ?_, fun p hp' py hy => ?_⟩
  · rw [e, if_neg (Ne.symm kept_ne.1), if_neg signs_ne]; exact h1
  · rw [e]
    by_cases q : [px, kept b] = [py, kept b']
    · rw [if_pos q]
      injection q with q1 q2
      injection q2 with q2 _
      subst q1
      exact .inr ⟨_, .head _, by rw [patAt_inj hp hy, kept_inj q2], rfl⟩
    · rw [if_neg q, if_neg kept_ne.2]
      exact (h2 j' b' py hy).imp id fun ⟨p, m, r⟩ => ⟨p, .tail _ m, r⟩
  · rw [e]
    rcases List.mem_cons.mp hp' with rfl | hp'
    · rw [patAt_one hy hp, if_pos rfl]
    · rw [if_neg, if_neg kept_ne.2]
      · exact h3 p hp' py hy
      · intro q
        have := h3 p hp' py hy
        rw [← q, hn] at this
        cases this
theorem KeptIs.new {xs : List (List Str × Addr × Value)} {k9 : List Str} {a a' : Addr} {v : Value} {kept1 : Int} {t : Nat} (hk : kSigns ≠ k9) : KeptIs (storedH (storedH xs kSigns a (.int kept1 t)) k9 a' v) kept1 := by
  refine .inr ⟨t, ?_⟩
  rw [pv_stored, if_neg (Ne.symm hk), pv_stored, if_pos rfl]
theorem TabOk.perm {xs : List (List Str × Addr × Value)} {ps ps' : List PK} {lv : Value} (h : TabOk xs ps lv) (s : ∀ p, p ∈ ps ↔ p ∈ ps') : TabOk xs ps' lv :=
  ⟨h.1, fun j b px hp => (h.2.1 j b px hp).imp id fun ⟨p, m, r⟩ => ⟨p, (s p).mp m, r⟩, fun p hp => h.2.2 p ((s p).mpr hp)⟩
-- part T8
noncomputable abbrev fixA (r d dP lim ld fr : Addr) : List Addr := [r, d, dP, lim, ld, fr]
noncomputable abbrev adrOf (l : Led) : List Addr := l.map (·.1)
theorem nodup_left {l1 l2 : List Addr} (h : (l1 ++ l2).Nodup) {a b : Addr} (ha : a ∈ l1) (hb : b ∈ l2) : a ≠ b := (List.nodup_append.mp h).2.2 a ha b hb
theorem mem_adr {q : Addr × Obj} {l : Led} (h : q ∈ l) : q.1 ∈ adrOf l := List.mem_map_of_mem h
/-- the run's objects are apart -/
theorem runNe_of {w : World} {h₀ h : Heap} {L r d dP lim ld fr : Addr} {rest : List Addr} {news X : Led} {oP od : Obj} (nd : (fixA r d dP lim ld fr ++ rest).Nodup) (N : News h₀ L h news) (hX : TupsIn X) (sub : ∀ q ∈ X, q ∈ news) (hd : (d, od) ∈ news) (hdc : od.cls ≠ .type "tuple") (hP : (dP, oP) ∈ news) (hPc : oP.cls ≠ .type "tuple") :
    RunNe r d lim ld fr dP X := by
  have n := (List.nodup_append.mp nd).1
  simp only [fixA, List.nodup_cons, List.mem_cons, List.not_mem_nil, or_false, not_or] at n
  obtain ⟨⟨a1, a2, a3, a4, a5⟩, ⟨b1, b2, b3, b4⟩, ⟨c1, c2, c3⟩, _⟩ := n
  exact ⟨tail_all N hX sub hd hdc, tail_all N hX sub hP hPc, Ne.symm a2, Ne.symm b1, c1, c2, c3, b3⟩
theorem patOf_len {px : Str} {cs : List Str} (h : PatOf px cs) : px.length ≤ 3 := by
  rcases h with ⟨rfl, _⟩ | ⟨rfl, _⟩ | ⟨rfl, _⟩ | ⟨rfl, _⟩ <;> decide
theorem empty_data {w : World} {o : Obj} (h : o.IsDictOf (PySem.strKind pE w) []) : ∃ es ep, o.data = .dict es ep ∧ es.toList = [] := by
  obtain ⟨es, ep, hc, hdat, _, hp, _⟩ := h
  exact ⟨es, ep, hdat, List.length_eq_zero_iff.mp hp.length⟩
theorem ne_full {w : World} {o : Obj} (hD : o.IsDictOf (PySem.strKind pE w) []) {e : DictEntry} {es : List DictEntry} {n : Nat} : o ≠ dictOf (e :: es) n := fun h => by
  obtain ⟨es', ep, hd, he⟩ := empty_data hD
  rw [h] at hd
  have hd' : Data.dict (e :: es).toArray n = Data.dict es' ep := hd
  injection hd' with hd' _
  rw [← hd'] at he
  simp at he
theorem pat_ne_full {w : World} {X : Led} {o : Obj} {xs : List (List Str × Addr × Value)} (T : PatTab w X o xs) {h : Int} {x : Str} {t : Nat} {v : Value} {es : List DictEntry} {n : Nat} : o ≠ dictOf (⟨h, .str x t, v⟩ :: es) n := fun q => by
  obtain ⟨c, es', ep, d, e, _⟩ := T
  rw [q] at d
  have d' : Data.dict (⟨h, .str x t, v⟩ :: es).toArray n = Data.dict es' ep := d
  injection d' with d' _
  rw [← d'] at e
  cases xs with
  | nil => simp at e
  | cons y ys =>
    simp only [List.map_cons] at e
    injection e with e _
    injection e with _ e _
    cases e
theorem pat_ne_empty {w : World} {X : Led} {o oe : Obj} {xs : List (List Str × Addr × Value)} (T : PatTab w X o xs) (hx : xs ≠ []) (hD : oe.IsDictOf (PySem.strKind pE w) []) : o ≠ oe := fun q => by
  obtain ⟨es2, ep2, hd, he⟩ := empty_data hD
  obtain ⟨c, es', ep, d, e, _⟩ := T
  rw [q, hd] at d
  injection d with d _
  rw [← d, he] at e
  cases xs with
  | nil => exact hx rfl
  | cons y ys => cases e
theorem stored_ne {xs : List (List Str × Addr × Value)} {k : List Str} {a : Addr} {v : Value} : storedH xs k a v ≠ [] := fun h => by
  have := pv_stored xs k k a v
  rw [h, if_pos rfl] at this
  cases this
theorem new_apart {w : World} {h₀ h : Heap} {L r d dP lim ld fr x d' rl nm aK e sv : Addr} {tw tl : Nat → Nat} {ov ol : Nat → Value} {mv : Value} {st : Int} {u ul zf t1 t2 : Nat} {X Y : Led} {oP o : Obj} {xs : List (List Str × Addr × Value)} {k9 : List Str} {v9 : Value} {a9 : Addr} {vs : List Value} {ta tb tc td tg tr z ze : Nat} {gr reg : Int} {px fx : Str}
    (n : (fixA r d dP lim ld fr).Nodup) (N : News h₀ L h ((nm, o) :: (aK, tup2 (.str px t1) (.str fx t2)) :: progLed w x d' rl e nm vs ta tb tc td gr tg reg tr z ze (runLed w tw tl ov ol r d lim ld sv fr dP mv st u ul zf oP X)))
    (hD : o.IsDictOf (PySem.strKind pE w) []) (TP : PatTab w Y oP (storedH xs k9 a9 v9)) : (fixA r d dP lim ld fr ++ [x, d', rl, nm]).Nodup := by
  have cD := dict_cls hD
  have cP : oP.cls = .type "dict" := TP.1.1
  have e1 : ∀ ob : Obj, ob.cls ≠ .type "dict" → ob ≠ o := fun ob h q => h (q ▸ cD)
  have e2 : ∀ ob : Obj, ob.cls ≠ .type "dict" → oP ≠ ob := fun ob h q => h (q ▸ cP)
  have e3 : ∀ (es : List DictEntry) (e : DictEntry) (k : Nat), dictOf (e :: es) k ≠ o := fun es e k => Ne.symm (ne_full hD)
  simp only [progLed, runLed] at N
  refine List.nodup_append.mpr ⟨n, ?_, ?_⟩
  · simp only [List.nodup_cons, List.mem_cons, List.not_mem_nil, or_false, not_or, List.nodup_nil, and_true, not_false_eq_true]
    refine ⟨⟨?_, ?_, ?_⟩, ⟨?_, ?_⟩, ?_⟩
    · exact led_neO N (by k_mem) (by k_mem) (by simp) (a := x) (oa := progObj d') (ob := progDict w ta tb tc td rl gr tg reg tr nm)
    · exact led_neO N (by k_mem) (by k_mem) (by simp) (a := x) (oa := progObj d') (ob := listOf (vs ++ [Value.ref e]).toArray z)
    · exact led_neO N (by k_mem) (by k_mem) (e1 _ (by simp)) (a := x) (oa := progObj d') (ob := o)
    · exact led_neO N (by k_mem) (by k_mem) (by simp) (a := d') (oa := progDict w ta tb tc td rl gr tg reg tr nm) (ob := listOf (vs ++ [Value.ref e]).toArray z)
    · exact led_neO N (by k_mem) (by k_mem) (e3 _ _ _) (a := d') (oa := progDict w ta tb tc td rl gr tg reg tr nm) (ob := o)
    · exact led_neO N (by k_mem) (by k_mem) (e1 _ (by simp)) (a := rl) (oa := listOf (vs ++ [Value.ref e]).toArray z) (ob := o)
  · have go : ∀ (y : Addr) (oy : Obj), (y, oy) ∈ ((nm, o) :: (aK, tup2 (.str px t1) (.str fx t2)) :: (x, progObj d') :: (d', progDict w ta tb tc td rl gr tg reg tr nm) :: (rl, listOf (vs ++ [Value.ref e]).toArray z) :: (e, tupObj [.str (Str.ofString "end") ze]) :: (r, runObj d) :: (d, runDict w tw ov lim sv fr mv dP st u) :: (dP, oP) :: (lim, instObj 1053 ld) :: (ld, limDict w tl ol ul) :: (fr, listOf #[] zf) :: X) →
        oy ≠ progObj d' → oy ≠ progDict w ta tb tc td rl gr tg reg tr nm → oy ≠ listOf (vs ++ [Value.ref e]).toArray z → oy ≠ o → ∀ b ∈ [x, d', rl, nm], y ≠ b := by
      intro y oy hy h1 h2 h3 h4 b hb
      simp only [List.mem_cons, List.not_mem_nil, or_false] at hb
      rcases hb with rfl | rfl | rfl | rfl
      · exact led_neO N hy (by k_mem) h1
      · exact led_neO N hy (by k_mem) h2
      · exact led_neO N hy (by k_mem) h3
      · exact led_neO N hy (by k_mem) h4
    intro y hy
    simp only [fixA, List.mem_cons, List.not_mem_nil, or_false] at hy
    rcases hy with rfl | rfl | rfl | rfl | rfl | rfl
    · exact go y (runObj d) (by k_mem) (by simp) (by simp) (by simp) (e1 _ (by simp))
    · exact go y (runDict w tw ov lim sv fr mv dP st u) (by k_mem) (by simp) (by simp) (by simp) (e3 _ _ _)
    · exact go y oP (by k_mem) (e2 _ (by simp)) (pat_ne_full TP) (e2 _ (by simp)) (pat_ne_empty TP stored_ne hD)
    · exact go y (instObj 1053 ld) (by k_mem) (by simp) (by simp) (by simp) (e1 _ (by simp))
    · exact go y (limDict w tl ol ul) (by k_mem) (by simp) (by simp) (by simp) (e3 _ _ _)
    · exact go y (listOf #[] zf) (by k_mem) (by simp) (by simp) (by simp) (e1 _ (by simp))
section
variable {F R P S A B X : Led} {q : Addr × Obj}
theorem mem_s1 (h : q ∈ R ++ X) : q ∈ F ++ (R ++ (P ++ X)) := by
  simp only [List.mem_append] at h ⊢
  rcases h with h | h <;> simp [h]
theorem mem_s2 (h : q ∈ F ++ P) : q ∈ F ++ (R ++ (P ++ X)) := by
  simp only [List.mem_append] at h ⊢
  rcases h with h | h <;> simp [h]
theorem mem_s4 {C : Led} (h : q ∈ C ++ (R ++ (P ++ X))) (n : q ∉ X) : q.1 ∈ adrOf R ++ (adrOf C ++ adrOf P) := by
  simp only [List.mem_append] at h ⊢
  rcases h with h | h | h | h
  · exact .inr (.inl (mem_adr h))
  · exact .inl (mem_adr h)
  · exact .inr (.inr (mem_adr h))
  · exact absurd h n
theorem mem_s3 (h : q ∈ F ++ (S ++ (R ++ ((A ++ B) ++ X)))) : q ∈ (R ++ X) ++ (F ++ (A ++ (S ++ B))) := by
  simp only [List.mem_append] at h ⊢
  rcases h with h | h | h | (h | h) | h <;> simp [h]
end
theorem nodup_in {f a b c : List Addr} (h : (f ++ a).Nodup) (h' : (f ++ b).Nodup) (ap : ∀ y ∈ b, ∀ z ∈ a, y ≠ z) (pm : c.Perm (b ++ a)) : (f ++ c).Nodup := by
  refine List.nodup_append.mpr ⟨(List.nodup_append.mp h).1, pm.nodup_iff.mpr (List.nodup_append.mpr ⟨(List.nodup_append.mp h').2.1, (List.nodup_append.mp h).2.1, ap⟩), fun y hy z hz => ?_⟩
  rcases List.mem_append.mp (pm.mem_iff.mp hz) with hz | hz
  · exact (List.nodup_append.mp h').2.2 y hy z hz
  · exact (List.nodup_append.mp h).2.2 y hy z hz
section
variable {w : World} {tw tl : Nat → Nat} {ov ol : Nat → Value} {r d lim ld sv fr dP : Addr} {mv lv now : Value} {st kept0 j : Int} {u ul zf tx tf : Nat} {oP : Obj} {px fl : Str} {b : Bool} {X front : Led} {xs : List (List Str × Addr × Value)} {ps : List PK}
variable {mean : ExcName → Option Value} {mg mb : Str → Option Value} {dp un : Nat} {gd : Option (List Code)} {cn : Str} {cs : Scope} {a : Addr} {ccd : Value} {cl : List (Str × Addr)} {outer : List Env} {A₀ : Around} {base h₀ : Heap} {L : Addr} {m : Str → Option Value} {s : Shared} {Q E : Value → Shared → Prop}
/-- what _law_asked leaves -/
inductive AskedEnd (w : World) (tw tl : Nat → Nat) (ov ol : Nat → Value) (r d lim ld sv fr dP : Addr) (mv lv now : Value) (kept0 j : Int) (ul zf : Nat) (b : Bool) (X front : Led) (xs : List (List Str × Addr × Value)) (ps : List PK) (h₀ h' : Heap) (L : Addr) (m : Str → Option Value) (x : Addr) : Prop
  | mk (sel : PK) (others : List PK) (X' : Led) (oP' : Obj) (xs' : List (List Str × Addr × Value)) (kept' st' : Int) (u' : Nat) (kvs : List (Str × Value)) : (x = sel.2.1) → ((∀ q ∈ X, q ∈ X')) → (TupsIn X') → (ProgAt w X' sel kvs) → ((∀ p ∈ others, p ∈ ps)) → ((∀ p ∈ ps, p ∈ sel :: others)) → (PatTab w X' oP' xs') → (TabOk xs' (sel :: others) lv) → (KeptIs xs' kept') → (kept' ≤ kept0 + 3) → (xs'.length ≤ xs.length + 2) → ((fixA r d dP lim ld fr ++ (adrOf front ++ adrOf (progsLed (sel :: others)))).Nodup) → (((j = 3 ∧ ∃ kt t, now = .ref kt ∧ (kt, keyObj sel.1.1 t sel.1.2) ∈ X) ∨ (¬(j = 3 ∧ now ≠ .none) ∧ sel.1 = (j, b)))) → (((sel ∈ ps ∧ Named X' sel.1 kvs) ∨ (kvs = [] ∧ ∀ p ∈ ps, p.1 ≠ sel.1))) → (Fr h₀ L h' m) → (News h₀ L h' (front ++ (sel.2.2 ++ runLed w tw tl ov ol r d lim ld sv fr dP mv st' u' ul zf oP' (progsLed others ++ X')))) → AskedEnd w tw tl ov ol r d lim ld sv fr dP mv lv now kept0 j ul zf b X front xs ps h₀ h' L m x
theorem asked_any (T0 : PatTab w X oP xs) (lo : (dP == sysModules) = false) (hX : TupsIn X) (hj : PatAt j px) (hj4 : j < 4) (hf : ownOf fl b) (V : TabOk xs ps lv) (G : LastIs ps X now lv) (hK : KeptIs xs kept0) (hk1 : kept0 ≤ 1000) (hz : xs.length ≤ 900)
    (hps : ∀ p ∈ ps, Stands w X p) (hfr : ∀ q ∈ front, q.2.cls ≠ .type "tuple") (nd : (fixA r d dP lim ld fr ++ (adrOf front ++ adrOf (progsLed ps))).Nodup)
    (B : Below A₀ base outer h₀) (F : Fr h₀ L s.heap m) (KX : (KF w.params).In h₀) (N : News h₀ L s.heap (front ++ runLed w tw tl ov ol r d lim ld sv fr dP mv st u ul zf oP (progsLed ps ++ X))) (T : TopE mean mg mb h₀) (hk : cs.kind = .function) (hd : dp + 70 < recursionLimit) (hu : un + 540 < cLine)
    (ret : ∀ x h' tk', AskedEnd w tw tl ov ol r d lim ld sv fr dP mv lv now kept0 j ul zf b X front xs ps h₀ h' L m x → Q (.ref x) { s with heap := h', toks := tk' }) :
    wpAny (model pE w) (ktrTop dp un gd cn cs L a ccd cl outer) (call (.ref 1090) [.ref r, .str px tx, .str fl tf]) Q E s := by
  have subX : ∀ q ∈ X, q ∈ front ++ runLed w tw tl ov ol r d lim ld sv fr dP mv st u ul zf oP (progsLed ps ++ X) := fun q hq => List.mem_append_right _ (.tail _ (.tail _ (.tail _ (.tail _ (.tail _ (.tail _ (List.mem_append_right _ hq)))))))
  have hPt : oP.cls ≠ .type "tuple" := by rw [T0.1.1]; decide
  have hne : RunNe r d lim ld fr dP X := runNe_of (w := w) nd N hX subX (List.mem_append_right _ (.tail _ (.head _))) (by simp) (List.mem_append_right _ (.tail _ (.tail _ (.head _)))) hPt
  have hs : ∀ q ∈ runLed w tw tl ov ol r d lim ld sv fr dP mv st u ul zf oP X, q ∈ front ++ runLed w tw tl ov ol r d lim ld sv fr dP mv st u ul zf oP (progsLed ps ++ X) := fun q hq => mem_s1 (R := [(r, runObj d), (d, runDict w tw ov lim sv fr mv dP st u), (dP, oP), (lim, instObj 1053 ld), (ld, limDict w tl ol ul), (fr, listOf #[] zf)]) hq
  have hcls : ∀ q ∈ front ++ progsLed ps, q.2.cls ≠ .type "tuple" := fun q hq => by
    rcases List.mem_append.mp hq with hq | hq
    · exact hfr q hq
    · obtain ⟨p, hp, hm⟩ := List.mem_flatMap.mp hq
      obtain ⟨kvs, hp', _⟩ := hps p hp
      exact hp'.cls q hm
  have hin : ∀ q ∈ front ++ progsLed ps, q ∈ front ++ runLed w tw tl ov ol r d lim ld sv fr dP mv st u ul zf oP (progsLed ps ++ X) := fun q hq => mem_s2 (R := [(r, runObj d), (d, runDict w tw ov lim sv fr mv dP st u), (dP, oP), (lim, instObj 1053 ld), (ld, limDict w tl ol ul), (fr, listOf #[] zf)]) hq
  have hr : ∀ q ∈ front ++ progsLed ps, q ∈ front ++ runLed w tw tl ov ol r d lim ld sv fr dP mv st u ul zf oP (progsLed ps ++ X) ∧ q.1 ∉ (runLed w tw tl ov ol r d lim ld sv fr dP mv st u ul zf oP X).map (·.1) := fun q hq => by
    refine ⟨hin q hq, fun hm => ?_⟩
    have hq' : q.1 ∈ adrOf front ++ adrOf (progsLed ps) := by rw [← List.map_append]; exact mem_adr hq
    have hm' : q.1 ∈ fixA r d dP lim ld fr ∨ q.1 ∈ adrOf X := (List.mem_append (s := fixA r d dP lim ld fr) (t := adrOf X)).mp hm
    rcases hm' with h | h
    · exact nodup_left nd h hq' rfl
    · obtain ⟨y, hy, e⟩ := List.mem_map.mp h
      have e1 := (N y (subX y hy)).1
      have e2 := (N q (hin q hq)).1
      rw [e, e2] at e1
      injection e1 with e1
      exact hcls q hq (e1 ▸ hX y hy)
  obtain ⟨cs9, hcs, hpo⟩ := patOf_of hj hj4
  have hd' : dp + 70 < recursionLimit := hd
  have same : ∀ p ∈ ps, ((j = 3 ∧ ∃ kt t, now = .ref kt ∧ (kt, keyObj p.1.1 t p.1.2) ∈ X) ∨ (¬(j = 3 ∧ now ≠ .none) ∧ p.1 = (j, b))) → ∀ h', Fr h₀ L h' m → News h₀ L h' (runLed w tw tl ov ol r d lim ld sv fr dP mv st u ul zf oP X ++ (front ++ progsLed ps)) →
      AskedEnd w tw tl ov ol r d lim ld sv fr dP mv lv now kept0 j ul zf b X front xs ps h₀ h' L m p.2.1 := by
    intro p hp hc h' F' N'
    obtain ⟨l1, l2, e⟩ := List.append_of_mem hp
    obtain ⟨kvs, hp', hn'⟩ := hps p hp
    have hmem : ∀ p', p' ∈ ps ↔ p' ∈ p :: (l1 ++ l2) := fun p' => by rw [e]; simp only [List.mem_append, List.mem_cons]; constructor <;> (intro h; rcases h with h | h | h <;> simp [h])
    refine ⟨p, l1 ++ l2, X, oP, xs, kept0, st, u, kvs, rfl, fun _ h => h, hX, hp', fun p' h => (hmem p').mpr (.tail _ h), fun p' h => (hmem p').mp h, T0, V.perm hmem, hK, by omega, by omega, ?_, hc, .inl ⟨hp, hn'⟩, F', fun q hq => N' q ?_⟩
    · have pm : (fixA r d dP lim ld fr ++ (adrOf front ++ adrOf (progsLed ps))).Perm (fixA r d dP lim ld fr ++ (adrOf front ++ adrOf (progsLed (p :: (l1 ++ l2))))) := by
        refine List.Perm.append_left _ (List.Perm.append_left _ (List.Perm.map _ (List.Perm.flatMap_right _ ?_)))
        rw [e]; exact List.perm_middle
      exact pm.nodup_iff.mp nd
    · have hpl : progsLed ps = progsLed l1 ++ (p.2.2 ++ progsLed l2) := by rw [e]; simp [progsLed]
      have hpo' : progsLed (l1 ++ l2) = progsLed l1 ++ progsLed l2 := by simp [progsLed]
      rw [hpl]
      rw [hpo'] at hq
      exact mem_s3 (R := [(r, runObj d), (d, runDict w tw ov lim sv fr mv dP st u), (dP, oP), (lim, instObj 1053 ld), (ld, limDict w tl ol ul), (fr, listOf #[] zf)]) hq
  by_cases hc : j = 3 ∧ now ≠ .none
  · rcases G with ⟨h, _⟩ | ⟨p, hp, kt, t, hn, hlv, hm⟩
    · exact absurd h hc.2
    · have e : px = Str.ofString "" := patAt_one hj (.inr (.inr (.inr (.inl ⟨hc.1, rfl⟩))))
      subst e
      refine Spec.rw (asked_as (chosen_last T0 lo (by rw [V.1]; exact hlv))) B F KX N hs hr T hk hd hu fun v l h' tk' hP F' N' _ => ?_
      obtain ⟨rfl, rfl⟩ := hP
      exact ret _ _ _ (same p hp (.inl ⟨hc.1, kt, t, hn, hm⟩) h' F' N')
  · have hl : px = Str.ofString "" → (pv xs kLast).getD .none = .none := fun e => by
      subst e
      have h3 : j = 3 := patAt_inj hj (.inr (.inr (.inr (.inl ⟨rfl, rfl⟩))))
      rcases G with ⟨_, h⟩ | ⟨p, hp, kt, t, hn, hlv, hm⟩
      · rw [V.1]; exact h
      · exact absurd ⟨h3, by rw [hn]; exact fun h => nomatch h⟩ hc
    rcases V.2.1 j b px hj with hv | ⟨p, hp, hpk, hv⟩
    · refine Spec.rw (asked_as (chosen_miss T0 lo hf hv hne hpo hK hk1 hz hl)) B F KX N hs hr T hk hd hu fun v l h' tk' hP F' N' hap => ?_
      obtain ⟨X1, x, d', rl, e, nm, o, vs, ta, tb, tc, td, gr, tg, reg, tr, z, ze, aK, t1, t2, st', u', k', oP', rfl, hX1, hS1, hD, lo9, rfl, TP⟩ := hP
      refine ret _ _ _ ?_
      have fresh : (fixA r d dP lim ld fr ++ [x, d', rl, nm]).Nodup := new_apart (List.nodup_append.mp nd).1 (fun q hq => N' q (List.mem_append_left _ hq)) hD TP
      have apart9 : ∀ y ∈ [x, d', rl, nm], ∀ q ∈ front ++ progsLed ps, y ≠ q.1 := fun y hy q hq => by
        simp only [List.mem_cons, List.not_mem_nil, or_false] at hy
        rcases hy with rfl | rfl | rfl | rfl
        · exact hap (_, progObj d') (.tail _ (.tail _ (.head _))) q hq
        · exact hap (_, progDict w ta tb tc td rl gr tg reg tr nm) (.tail _ (.tail _ (.tail _ (.head _)))) q hq
        · exact hap (_, listOf (vs ++ [Value.ref e]).toArray z) (.tail _ (.tail _ (.tail _ (.tail _ (.head _))))) q hq
        · exact hap (_, o) (.head _) q hq
      refine ⟨((j, b), x, [(x, progObj d'), (d', progDict w ta tb tc td rl gr tg reg tr nm), (rl, listOf (vs ++ [Value.ref e]).toArray z), (nm, o)]), ps, (aK, tup2 (.str px t1) (.str (kept b) t2)) :: (e, tupObj [.str (Str.ofString "end") ze]) :: (X ++ X1), oP', storedH (storedH xs kSigns 913 (.int (kept0 + px.length) k')) [px, kept b] aK (.ref x), kept0 + px.length, st', u', [], rfl, ?_, ?_, ?_, fun _ h => h, fun _ h => .tail _ h, ?_, V.new hj hv, KeptIs.new kept_ne.2, ?_, ?_, ?_, .inr ⟨hc, rfl⟩, .inr ⟨rfl, ?_⟩, F', ?_⟩
      · exact fun q hq => .tail _ (.tail _ (List.mem_append_left _ hq))
      · exact List.forall_mem_cons.mpr ⟨rfl, List.forall_mem_cons.mpr ⟨rfl, fun q hq => (List.mem_append.mp hq).elim (hX q) (hX1 q)⟩⟩
      · exact ⟨d', rl, e, nm, o, vs, cs9, ta, tb, tc, td, gr, tg, reg, tr, z, ze, rfl, .tail _ (.head _), hcs, hS1.mono fun q hq => .tail _ (.tail _ (List.mem_append_right _ hq)), hD, lo9⟩
      · refine TP.shrink (fun q hq => ?_)
        simp only [progLed, List.mem_cons, List.mem_append] at hq ⊢
        rcases hq with h | h | h | h | h | h | h
        · simp [h]
        · right; rw [h]; simp
        · right; rw [h]; simp
        · right; rw [h]; simp
        · simp [h]
        · simp [h]
        · simp [h]
      · have := patOf_len hpo; omega
      · exact Nat.le_trans (storedH_le (storedH_le (Nat.le_refl _))) (by omega)
      · show (fixA r d dP lim ld fr ++ (adrOf front ++ adrOf ([(x, progObj d'), (d', progDict w ta tb tc td rl gr tg reg tr nm), (rl, listOf (vs ++ [Value.ref e]).toArray z), (nm, o)] ++ progsLed ps))).Nodup
        refine nodup_in (b := [x, d', rl, nm]) nd fresh (fun y hy z hz e9 => ?_) (by simp only [adrOf, List.map_append, List.map_cons, List.map_nil]; exact List.perm_append_comm_assoc _ _ _ )
        rw [← List.map_append] at hz
        obtain ⟨q, hq, rfl⟩ := List.mem_map.mp hz
        exact apart9 y hy q hq e9
      · intro p hp e9
        have h9 := V.2.2 p hp
        rw [e9] at h9
        have := h9 px hj
        rw [hv] at this; cases this
      · intro q hq
        refine N' q ?_
        simp only [progLed, runLed, progsLed, List.mem_append, List.mem_cons, List.not_mem_nil, or_false] at hq ⊢
        rcases hq with h | (h | h | h | h) | h | h | h | h | h | h | h | h | h | h | h <;> first | exact .inr (.inl h) | exact .inr (.inr h) | (refine .inl ?_; (repeat (first | exact h | exact .inl h | refine .inr ?_)); done)
    · refine Spec.rw (asked_as (chosen_hit T0 lo hf hv hne hpo hl)) B F KX N hs hr T hk hd hu fun v l h' tk' hP F' N' _ => ?_
      obtain ⟨rfl, aK, t1, t2, rfl⟩ := hP
      exact ret _ _ _ (same p hp (.inr ⟨hc, hpk⟩) h' F' fun q hq => N' q (.tail _ hq))
end
-- part T10
noncomputable abbrev Trip := Value × Value × Value
/-- the scopes that are open: how many saves there were, and the key that held -/
inductive ScopesAre (X : Led) (all : List Trip) : List Value → Nat → Prop
  | nil {n : Nat} : ScopesAre X all [] n
  | snoc {ws : List Value} {mk n : Nat} {a : Addr} {t : Nat} {nw : Value} {tr : Trip} : ScopesAre X all ws mk → mk ≤ n → (a, tupObj [.int mk t, nw]) ∈ X → all[mk]? = some tr → tr.2.2 = nw → ScopesAre X all (ws ++ [.ref a]) n
theorem ScopesAre.mono {X Y : Led} {all all' : List Trip} {ws : List Value} {n n' : Nat} (h : ScopesAre X all ws n) (s : ∀ q ∈ X, q ∈ Y) (hn : n ≤ n') (ha : ∀ i, i ≤ n → all'[i]? = all[i]?) : ScopesAre Y all' ws n' := by
  induction h generalizing n' with
  | nil => exact .nil
  | snoc h1 h2 h3 h4 h5 ih => exact .snoc (ih (Nat.le_refl _) fun i hi => ha i (Nat.le_trans hi h2)) (Nat.le_trans h2 hn) (s _ h3) ((ha _ h2).trans h4) h5
theorem ScopesAre.last {X : Led} {all : List Trip} {ws : List Value} {n : Nat} (h : ScopesAre X all ws n) (hw : ws ≠ []) : ∃ ws' mk a t nw tr, ws = ws' ++ [.ref a] ∧ ScopesAre X all ws' mk ∧ mk ≤ n ∧ (a, tupObj [.int (mk : Nat) t, nw]) ∈ X ∧ all[mk]? = some tr ∧ tr.2.2 = nw := by
  cases h with
  | nil => exact absurd rfl hw
  | snoc h1 h2 h3 h4 h5 => exact ⟨_, _, _, _, _, _, rfl, h1, h2, h3, h4, h5⟩
theorem SavesAre.split {X : Led} {ws : List Value} {sts : List (Value × Value)} (h : SavesAre X ws sts) : ∀ k, k ≤ sts.length → ∃ v1 v2, ws = v1 ++ v2 ∧ v1.length = k ∧ SavesAre X v1 (sts.take k) ∧ SavesAre X v2 (sts.drop k) := by
  induction h with
  | nil => intro k hk; exact ⟨[], [], rfl, by simp at hk; simp [hk], by simpa using .nil, by simpa using .nil⟩
  | @snoc ws sts a z mv lv h1 h2 ih =>
    intro k hk
    rw [List.length_append, List.length_singleton] at hk
    by_cases hk' : k ≤ sts.length
    · obtain ⟨v1, v2, e, hl, h3, h4⟩ := ih k hk'
      refine ⟨v1, v2 ++ [.ref a], by rw [e, List.append_assoc], hl, ?_, ?_⟩
      · rw [List.take_append_of_le_length hk']; exact h3
      · rw [List.drop_append_of_le_length hk']; exact .snoc h4 h2
    · have e : k = sts.length + 1 := by omega
      refine ⟨ws ++ [.ref a], [], by simp, by rw [List.length_append, h1.len, e]; rfl, ?_, ?_⟩
      · rw [List.take_of_length_le (by rw [List.length_append, e]; exact Nat.le_refl _)]; exact .snoc h1 h2
      · rw [List.drop_of_length_le (by rw [List.length_append, e]; exact Nat.le_refl _)]; exact .nil
theorem LastIs.mono {ps ps' : List PK} {X Y : Led} {now lv : Value} (h : LastIs ps X now lv) (hp : ∀ p ∈ ps, p ∈ ps') (s : ∀ q ∈ X, q ∈ Y) : LastIs ps' Y now lv :=
  h.imp id fun ⟨p, m, kt, t, a, b, c⟩ => ⟨p, hp _ m, kt, t, a, b, s _ c⟩
/-- the table, whatever else: i turns are over -/
noncomputable def Inv0 (w : World) (X : Led) (ps : List PK) (xs : List (List Str × Addr × Value)) (oP : Obj) (lv : Value) (kept0 : Int) (i : Nat) : Prop :=
  PatTab w X oP xs ∧ TupsIn X ∧ TabOk xs ps lv ∧ KeptIs xs kept0 ∧ kept0 ≤ 3 * (i : Int) ∧ xs.length ≤ 20 * i ∧ ∀ p ∈ ps, Stands w X p
noncomputable def Inv1 (X : Led) (ps : List PK) (sns : List Value) (Ks : List (Int × Bool)) (i : Nat) : Prop := KeysAre X sns Ks ∧ (∀ K ∈ Ks, ∃ p ∈ ps, p.1 = K) ∧ Ks.length ≤ i
noncomputable def Inv2 (X : Led) (ps : List PK) (past : List Trip) (cur : Trip) (svs scs : List Value) (i : Nat) : Prop :=
  (∀ t ∈ past ++ [cur], handedIn t.1 = true ∧ LastIs ps X t.2.2 t.2.1) ∧ (past ++ [cur]).head? = some (.none, .none, .none) ∧ SavesAre X svs (past.map fun t => (t.1, t.2.1)) ∧ past.length ≤ i ∧ ScopesAre X (past ++ [cur]) scs past.length ∧ scs.length ≤ i
theorem Inv1.mono {X Y : Led} {ps ps' : List PK} {sns : List Value} {Ks : List (Int × Bool)} {i i' : Nat} (h : Inv1 X ps sns Ks i) (hp : ∀ p ∈ ps, ∃ p' ∈ ps', p'.1 = p.1) (s : ∀ q ∈ X, q ∈ Y) (hi : i ≤ i') : Inv1 Y ps' sns Ks i' :=
  ⟨h.1.mono s, fun K hK => let ⟨p, m, e⟩ := h.2.1 K hK; let ⟨p', m', e'⟩ := hp p m; ⟨p', m', e'.trans e⟩, Nat.le_trans h.2.2 hi⟩
theorem LastIs.to {ps ps' : List PK} {X Y : Led} {now lv : Value} (h : LastIs ps X now lv) (hp : ∀ p ∈ ps, ∃ p' ∈ ps', p'.1 = p.1 ∧ p'.2.1 = p.2.1) (s : ∀ q ∈ X, q ∈ Y) : LastIs ps' Y now lv :=
  h.imp id fun ⟨p, m, kt, t, a, b, c⟩ => let ⟨p', m', e1, e2⟩ := hp p m; ⟨p', m', kt, t, a, b.trans (by rw [e2]), by rw [e1]; exact s _ c⟩
theorem Inv2.mono {X Y : Led} {ps ps' : List PK} {past : List Trip} {cur : Trip} {svs scs : List Value} {i i' : Nat} (h : Inv2 X ps past cur svs scs i) (hp : ∀ p ∈ ps, ∃ p' ∈ ps', p'.1 = p.1 ∧ p'.2.1 = p.2.1) (s : ∀ q ∈ X, q ∈ Y) (hi : i ≤ i') : Inv2 Y ps' past cur svs scs i' :=
  ⟨fun t ht => ⟨(h.1 t ht).1, (h.1 t ht).2.to hp s⟩, h.2.1, h.2.2.1.mono s, Nat.le_trans h.2.2.2.1 hi, h.2.2.2.2.1.mono s (Nat.le_refl _) fun _ _ => rfl, Nat.le_trans h.2.2.2.2.2 hi⟩
theorem Inv2.push {X : Led} {ps : List PK} {past : List Trip} {cur cur' : Trip} {svs scs : List Value} {i a z : Nat} (h : Inv2 X ps past cur svs scs i) (h1 : handedIn cur'.1 = true) (h2 : LastIs ps X cur'.2.2 cur'.2.1) (hm : (a, matchObj z cur.1 cur.2.1) ∈ X) :
    Inv2 X ps (past ++ [cur]) cur' (svs ++ [.ref a]) scs (i + 1) := by
  obtain ⟨a1, a2, a3, a4, a5, a6⟩ := h
  refine ⟨fun t ht => ?_, ?_, ?_, ?_, ?_, by omega⟩
  · rcases List.mem_append.mp ht with ht | ht
    · exact a1 t ht
    · rw [List.mem_singleton.mp ht]; exact ⟨h1, h2⟩
  · rw [List.head?_append, a2]; rfl
  · rw [List.map_append]; exact .snoc a3 hm
  · rw [List.length_append, List.length_singleton]; omega
  · refine a5.mono (fun _ h => h) (by rw [List.length_append]; omega) fun j hj => ?_
    rw [List.getElem?_append_left (by rw [List.length_append, List.length_singleton]; omega)]
theorem Inv2.scope {X : Led} {ps : List PK} {past : List Trip} {cur : Trip} {svs scs : List Value} {i a t : Nat} (h : Inv2 X ps past cur svs scs i) (hm : (a, tupObj [.int (past.length : Nat) t, cur.2.2]) ∈ X) : Inv2 X ps past cur svs (scs ++ [.ref a]) (i + 1) := by
  obtain ⟨a1, a2, a3, a4, a5, a6⟩ := h
  exact ⟨a1, a2, a3, by omega, .snoc a5 (Nat.le_refl _) hm (by simp) rfl, by rw [List.length_append, List.length_singleton]; omega⟩
/-- behind a scope that is left -/
theorem Inv2.left {scs0 : List Value} {X : Led} {ps : List PK} {past : List Trip} {cur tr : Trip} {v1 svs ws : List Value} {i mk : Nat} (h : Inv2 X ps past cur svs scs0 i) (hs : ScopesAre X (past ++ [cur]) ws mk) (hmk : mk ≤ past.length) (ht : (past ++ [cur])[mk]? = some tr) (hv : SavesAre X v1 ((past.map fun t => (t.1, t.2.1)).take mk)) (hw : ws.length ≤ i) :
    Inv2 X ps (past.take mk) tr v1 ws i := by
  obtain ⟨a1, a2, a3, a4, a5, a6⟩ := h
  have e : past.take mk ++ [tr] = (past ++ [cur]).take (mk + 1) := by
    rw [List.take_add_one, ht, List.take_append_of_le_length hmk]; rfl
  have hl : (past.take mk).length = mk := by rw [List.length_take]; omega
  refine ⟨fun t h => ?_, ?_, ?_, by omega, ?_, hw⟩
  · rw [e] at h; exact a1 t (List.mem_of_mem_take h)
  · rw [e, List.head?_take, if_neg (by omega)]; exact a2
  · rw [List.map_take]; exact hv
  · rw [e, hl]
    refine hs.mono (fun _ h => h) (Nat.le_refl _) fun j hj => ?_
    rw [List.getElem?_take_of_lt (by omega)]
theorem TabOk.last {xs xs' : List (List Str × Addr × Value)} {ps : List PK} {lv lv' : Value} (h : TabOk xs ps lv) (e : ∀ k, k ≠ kLast → pv xs' k = pv xs k) (hl : (pv xs' kLast).getD .none = lv') : TabOk xs' ps lv' := by
  obtain ⟨h1, h2, h3⟩ := h
  refine ⟨hl, fun j b px hp => ?_, fun p hp px hpx => ?_⟩
  · rw [e _ (Ne.symm kept_ne.1)]; exact h2 j b px hp
  · rw [e _ (Ne.symm kept_ne.1)]; exact h3 p hp px hpx
theorem KeptIs.last {xs xs' : List (List Str × Addr × Value)} {k0 : Int} (h : KeptIs xs k0) (e : ∀ k, k ≠ kLast → pv xs' k = pv xs k) : KeptIs xs' k0 := by
  unfold KeptIs
  rw [e _ signs_ne]; exact h
theorem allNe_progs {h₀ h : Heap} {L a : Addr} {o : Obj} {fix fr9 : List Addr} {ps : List PK} {X l : Led} (nd : (fix ++ (fr9 ++ adrOf (progsLed ps))).Nodup) (ha : a ∈ fix ∨ a ∈ fr9) (N : News h₀ L h l) (hX : TupsIn X) (sub : ∀ q ∈ X, q ∈ l) (hm : (a, o) ∈ l) (hc : o.cls ≠ .type "tuple") : AllNe a (progsLed ps ++ X) := by
  refine allNe_app (allNe_of fun q hq => ?_) (tail_all N hX sub hm hc)
  rcases ha with ha | ha
  · exact nodup_left nd ha (List.mem_append_right _ (mem_adr hq))
  · exact nodup_left (List.nodup_append.mp nd).2.1 ha (mem_adr hq)
-- part T9
/-- the way in from the top -/
theorem top_call {prog : Program} {w : World} {s : Shared} {K : Frag} {mg mb : Str → Option Value} {p : Program} {loose : List Str} {mean : ExcName → Option Value} {R : Result → Shared → Prop} {name qual : Str} {params : Arguments} {body : List Stmt} {scope : Scope} {dV kV doc pm cdv ct oc : Value} {an od : Option Addr} {osl : Array (Option Value)} {f : Addr} {args : Args} {binds : List (Str × Value)}
    (X₀ : K.In s.heap) (T : Top p loose mean mg mb s.heap)
    (ho : K.lookup f = some ⟨oc, od, .func (fnOf name qual params body scope dV kV doc pm an cdv ct), osl⟩) (hcd : codeIn K cdv qual = true)
    (hbind : BindsTo s (fnOf name qual params body scope dV kV doc pm an cdv ct) args binds) (hloc : ∀ y ∈ binds, scope.names.lookup y.1 = some .local)
    (h : ∀ L' h₁ tk, Fr s.heap L' h₁ (fun y => binds.reverse.lookup y) → News s.heap L' h₁ [] → Below callerA s.heap [] s.heap →
      let e9 := envOf qual scope L' f cdv
      let A9 := callerA.deeper e9
      wpAny (model prog w) A9 (execs body e9)
        (fun fl s' => R (.ok (.ret (match fl with | .ret v => v | _ => .none))) s')
        (fun e s' => wpAny (model prog w) A9 (leaving e9 e) (fun _ s'' => R (.error e) s'') (fun e' s'' => R (.error e') s'') s')
        { s with heap := h₁, toks := tk })
    (hco : scope.isCoroutine = false) (hgen : scope.isGenerator = false) (hk : scope.kind = .function)
    (hcell : ∀ x ∈ scope.names, x.2 ≠ .cell) : codeAny (model prog w) callerA (.call (.ref f) args) R s := by
  refine codeAny_call_def (fd := fnOf name qual params body scope dV kV doc pm an cdv ct) (body := body) (binds := binds) (by decide) (X₀ _ _ ho) rfl T.nolimit (codeRec_of X₀ hcd) rfl hbind hcell hloc (fun h₁ hns hk₁ => ?_) hco hgen hk
  exact h s.heap.objs.size h₁ _ ⟨hns, fun b o e => hk₁ b o e, Nat.le_refl _⟩ (fun _ h => nomatch h) (below_caller s.heap)
section
variable {w : World} {A : Around} {E : Value → Shared → Prop} {s : Shared} {env : Env} {h₀ : Heap} {x : Str} {body : List Stmt} {Q : Flow → Shared → Prop}
/-- a loop over a range, by what holds of names and ledger; the ledger may grow -/
theorem range_grow {r : Addr} {a₀ b₀ : Int} {t₀ u₀ v₀ : Tok} {n : Nat} {m₀ : Str → Option Value} {news : Led} (J : Nat → (Str → Option Value) → Led → Prop)
    (hh : A.handled = none) (hr : IsRange s.heap r a₀ b₀ 1 t₀ u₀ v₀) (hsmall : Builtin.Range.small a₀ b₀ 1 = true) (hn : Builtin.Range.rangeSize a₀ b₀ 1 = (n : Int)) (F : Fr h₀ env.locals s.heap m₀) (N : News h₀ env.locals s.heap news) (hj : J 0 m₀ news)
    (turn : ∀ i v m₁ news₁ h tk I oI, i < n → J i m₁ news₁ → oI.cls = .type "range_iterator" → (∀ p ∈ news₁, p.1 ≠ I) → Fr h₀ env.locals h (fun y => if y = x then some v else m₁ y) → News h₀ env.locals h ((I, oI) :: news₁) →
      wpAny (model pE w) A (execs body env) (GrowPost h₀ env.locals I oI (J (i + 1)) { s with heap := h, toks := tk } Q) E { s with heap := h, toks := tk })
    (done : ∀ m₁ news₁ h tk, J n m₁ news₁ → Fr h₀ env.locals h m₁ → News h₀ env.locals h news₁ → Q .next { s with heap := h, toks := tk }) :
    wpAny (model pE w) A (pyIter (.ref r)) (fun it s₂ => LoopAtV pE w A h₀ env x body Q E it s₂) E s := by
  refine wpAny_pyIter_range hr hsmall ?_
  have W := Walks.range (prog := pE) (w := w) hh s.heap.objs.size a₀ 1 n
  have hI0 : h₀.get? s.heap.objs.size = none := next_is_new F
  refine ⟨_, _, _, n, _, _, m₀, news, J, rfl, W, ?_, ?_, ?_, by show IsRangeIter _ _ _ _ _; rw [hn]; simpa using Heap.get?_push_size _ rfl, F.push _, (fun p hp => ⟨Heap.get?_push_of_some _ (N p hp).1, (N p hp).2⟩), hj, ?_, ?_⟩
  · intro hm
    exact absurd F.ns.lt ((List.mem_singleton.mp hm) ▸ Nat.lt_irrefl _)
  · intro b hb
    rw [List.mem_singleton.mp hb]
    exact hI0
  · intro p hp hI
    exact absurd (Heap.lt_size (N p hp).1) ((List.mem_singleton.mp hI) ▸ Nat.lt_irrefl _)
  · rintro i v m₁ news₁ s₁ own ⟨hh', tk', rfl⟩ hin hP hJ hoff hown hat hall hst F₁ N₁
    obtain ⟨oI, hoI, hcI⟩ : ∃ oI, hh'.get? s.heap.objs.size = some oI ∧ oI.cls = .type "range_iterator" := ⟨_, hst, rfl⟩
    have hmem := hall _ (List.mem_singleton.mpr rfl) hI0 _ hoI
    have hoff' : ∀ p ∈ news₁, p.1 ≠ s.heap.objs.size := fun p hp e => hoff p hp (List.mem_singleton.mpr e)
    refine wpAny_mono (turn i v m₁ news₁ hh' tk' _ oI hin hJ hcI hoff' F₁ (fun q hq => ?_)) (fun f s₂ p => ?_) fun _ _ e => e
    · rcases List.mem_cons.mp hq with rfl | hq
      · exact N₁ _ (List.mem_append_left _ hmem)
      · exact N₁ _ (List.mem_append_right _ hq)
    have fin : GrowEnd h₀ env.locals s.heap.objs.size oI (J (i + 1)) { s with heap := hh', toks := tk' } s₂ → LoopStepU h₀ env.locals [s.heap.objs.size] own (J (i + 1)) { s with heap := hh', toks := tk' } .next s₂ := by
      rintro ⟨h', tk, m', news', e, F', N', ho, hm⟩
      refine ⟨rfl, h', tk, m', news', e, F', fun q hq => ?_, fun p hp hq => ho p hp (List.mem_singleton.mp hq), hm⟩
      rcases List.mem_append.mp hq with hq | hq
      · have e1 : q.1 = s.heap.objs.size := List.mem_singleton.mp (hown q hq)
        have e2 := hat q hq
        rw [e1] at e2
        have e3 := e2.symm.trans hoI
        injection e3 with e3
        have e4 : q = (s.heap.objs.size, oI) := Prod.ext e1 e3
        rw [e4]
        exact N' _ (.head _)
      · exact N' q (.tail _ hq)
    cases f with
    | ret v => exact .ret p
    | brk => exact .brk p
    | next => exact .next (fin p)
    | cont => exact .cont (fin p)
  · rintro h' tk m' news' F' N' _ hJ
    exact done m' news' h' tk hJ F' N'
end
-- part T11
theorem scs_ne {w : World} {A : Around} {E : Value → Shared → Prop} {s : Shared} {h₀ : Heap} {L sc l0 : Addr} {news : Led} {Q : Value → Shared → Prop} {scs : List Value} {z z0 : Nat} (N : News h₀ L s.heap news) (h1 : (sc, listOf scs.toArray z) ∈ news) (h2 : (l0, listOf #[] z0) ∈ news) (hu : A.units + 64 < cLine) (h : Q (.bool (!scs.isEmpty)) s) :
    wpAny (model pE w) A (compareOp .NotEq (.ref sc) (.ref l0)) Q E s := by
  have a := News.isList N h1
  have b := News.isList N h2
  cases scs with
  | nil =>
    have r : ∀ {x : Addr} {k : Nat}, (x, listOf #[] k) ∈ news → Reads s.heap (.ref x) (.list []) [x] := fun hm => reads_list_at (N _ hm).1 rfl rfl .nil
    exact ne_dataH (r h1) (r h2) (by decide) (by decide) hu h
  | cons v vs => exact SeqAt.RcNeAt.lists_lengths a b (by simp) (by omega) pE w E Q h
section
variable {w : World} {tw tl : Nat → Nat} {ov ol : Nat → Value} {c cl r d lim ld sv fr dP sc sn : Addr} {ul zf zc : Nat} {cells : List Value}
/-- the names of the law's frame -/
noncomputable def LawM (m : Str → Option Value) (c r sc sn : Addr) (now : Value) : Prop := m (Str.ofString "cup") = some (.ref c) ∧ m (Str.ofString "run") = some (.ref r) ∧ m (Str.ofString "scopes") = some (.ref sc) ∧ m (Str.ofString "now") = some now ∧ m (Str.ofString "seen") = some (.ref sn)
noncomputable abbrev lawMap (c r sc sn : Addr) (now : Value) (u : Str → Option Value) : Str → Option Value := fun y => if y = Str.ofString "cup" then some (.ref c) else if y = Str.ofString "run" then some (.ref r) else if y = Str.ofString "scopes" then some (.ref sc) else if y = Str.ofString "now" then some now else if y = Str.ofString "seen" then some (.ref sn) else u y
theorem LawM.map {m : Str → Option Value} {c r sc sn : Addr} {now : Value} (h : LawM m c r sc sn now) : m = lawMap c r sc sn now m := by
  obtain ⟨h1, h2, h3, h4, h5⟩ := h
  funext y
  unfold lawMap
  split
  · rename_i e; rw [e]; exact h1
  split
  · rename_i e; rw [e]; exact h2
  split
  · rename_i e; rw [e]; exact h3
  split
  · rename_i e; rw [e]; exact h4
  split
  · rename_i e; rw [e]; exact h5
  · rfl
noncomputable abbrev lawLed (w : World) (tw tl : Nat → Nat) (ov ol : Nat → Value) (c cl r d lim ld sv fr dP sc sn : Addr) (ul zf zc : Nat) (cells : List Value) (oc oP : Obj) (mv : Value) (st : Int) (us : Nat) (scs sns svs : List Value) (zsc zsn zsv : Nat) (ps : List PK) (X : Led) : Led :=
  (c, oc) :: (cl, listOf cells.toArray zc) :: (sc, listOf scs.toArray zsc) :: (sn, listOf sns.toArray zsn) :: (sv, listOf svs.toArray zsv) :: runLed w tw tl ov ol r d lim ld sv fr dP mv st us ul zf oP (progsLed ps ++ X)
/-- what holds when i turns are over -/
inductive LawInv (w : World) (tw tl : Nat → Nat) (ov ol : Nat → Value) (c cl r d lim ld sv fr dP sc sn : Addr) (ul zf zc : Nat) (cells : List Value) (i : Nat) (m : Str → Option Value) (news : Led) : Prop
  | mk (k : Int) (u : Nat) (oc oP : Obj) (mv lv now : Value) (st : Int) (us : Nat) (scs sns svs : List Value) (zsc zsn zsv : Nat) (xs : List (List Str × Addr × Value)) (ps : List PK) (Ks : List (Int × Bool)) (past : List Trip) (X : Led) (kept0 : Int) : (news = lawLed w tw tl ov ol c cl r d lim ld sv fr dP sc sn ul zf zc cells oc oP mv st us scs sns svs zsc zsn zsv ps X) → (LawM m c r sc sn now) → (oc.IsDictOf (PySem.strKind pE w) (cupOf cl k u)) → (0 ≤ k) → (k ≤ 1 + 4 * (i : Int)) → (Inv0 w X ps xs oP lv kept0 i) → (Inv1 X ps sns Ks i) → (Inv2 X ps past (mv, lv, now) svs scs i) → ((fixA r d dP lim ld fr ++ ([c, cl, sc, sn, sv] ++ adrOf (progsLed ps))).Nodup) → LawInv w tw tl ov ol c cl r d lim ld sv fr dP sc sn ul zf zc cells i m news
theorem turn_end {h₀ h' : Heap} {L I : Addr} {oI : Obj} {m' : Str → Option Value} {i tk : Nat} {s : Shared} {k : Int} {u : Nat} {oc oP : Obj} {mv lv now : Value} {st : Int} {us : Nat} {scs sns svs : List Value} {zsc zsn zsv : Nat} {xs : List (List Str × Addr × Value)} {ps : List PK} {Ks : List (Int × Bool)} {past : List Trip} {X l : Led} {kept0 : Int}
    (F : Fr h₀ L h' m') (N : News h₀ L h' l) (sub : ∀ q ∈ (I, oI) :: lawLed w tw tl ov ol c cl r d lim ld sv fr dP sc sn ul zf zc cells oc oP mv st us scs sns svs zsc zsn zsv ps X, q ∈ l) (hcI : oI.cls = .type "range_iterator") (hM : LawM m' c r sc sn now) (hC : oc.IsDictOf (PySem.strKind pE w) (cupOf cl k u)) (h0 : 0 ≤ k) (h1 : k ≤ 1 + 4 * ((i + 1 : Nat) : Int))
    (V0 : Inv0 w X ps xs oP lv kept0 (i + 1)) (V1 : Inv1 X ps sns Ks (i + 1)) (V2 : Inv2 X ps past (mv, lv, now) svs scs (i + 1)) (nd : (fixA r d dP lim ld fr ++ ([I, c, cl, sc, sn, sv] ++ adrOf (progsLed ps))).Nodup) :
    GrowEnd h₀ L I oI (LawInv w tw tl ov ol c cl r d lim ld sv fr dP sc sn ul zf zc cells (i + 1)) s { s with heap := h', toks := tk } := by
  have nd' : (I :: (fixA r d dP lim ld fr ++ ([c, cl, sc, sn, sv] ++ adrOf (progsLed ps)))).Nodup := (List.perm_middle (l₁ := fixA r d dP lim ld fr) (l₂ := [c, cl, sc, sn, sv] ++ adrOf (progsLed ps)) (a := I)).nodup_iff.mp nd
  obtain ⟨nI, nd0⟩ := List.nodup_cons.mp nd'
  have N' : News h₀ L h' ((I, oI) :: lawLed w tw tl ov ol c cl r d lim ld sv fr dP sc sn ul zf zc cells oc oP mv st us scs sns svs zsc zsn zsv ps X) := fun q hq => N q (sub q hq)
  refine ⟨h', tk, m', _, rfl, F, N', fun p hp e => ?_, _, _, _, _, _, _, _, _, _, _, _, _, _, _, _, _, _, _, _, _, _, rfl, hM, hC, h0, h1, V0, V1, V2, nd0⟩
  by_cases hX : p ∈ X
  · have e1 := (N' p (.tail _ hp)).1
    rw [e, (N' (I, oI) (.head _)).1] at e1
    injection e1 with e1
    have := V0.2.1 p hX
    rw [← e1, hcI] at this
    exact absurd this (by decide)
  · refine nI (e ▸ ?_)
    exact mem_s4 (C := [(c, oc), (cl, listOf cells.toArray zc), (sc, listOf scs.toArray zsc), (sn, listOf sns.toArray zsn), (sv, listOf svs.toArray zsv)]) (R := [(r, runObj d), (d, runDict w tw ov lim sv fr mv dP st us), (dP, oP), (lim, instObj 1053 ld), (ld, limDict w tl ol ul), (fr, listOf #[] zf)]) hp hX
end
noncomputable def forB (s : Stmt) : List Stmt := match s with
  | .For _ _ b .. => b
  | _ => []
@[reducible] noncomputable def lawBody : List Stmt := (⟨_, by conv => lhs; whnf⟩ : {b : List Stmt // forB (nthS B119 4) = b}).1
theorem law_fold {w : World} {L : Addr} {body : List Stmt} {Q : Flow → Shared → Prop} {E : Value → Shared → Prop} {s : Shared}
    (h : let e9 := envOf (Str.ofString "law") Sc119 L 1097 (.ref 1096); let A9 := callerA.deeper e9; wpAny (model pE w) A9 (execs body e9) Q E s) :
    wpAny (model pE w) (callerA.deeper (envOf (Str.ofString "law") Sc119 L 1097 (.ref 1096))) (execs body (envOf (Str.ofString "law") Sc119 L 1097 (.ref 1096))) Q E s := h
theorem rowsT11_1 : True := by
  k_with "n ktr_units" => (first | ((k_dflt (exact Nat.le_of_ble_eq_true rfl))) | fail "row")
  k_with "n ktr_room" => (first | ((k_dflt (exact Nat.le_of_ble_eq_true rfl))) | fail "row")
  trivial
-- part T12
theorem law_ne {r d dP lim ld fr I c cl sc sn sv : Addr} {rest : List Addr} (nd : (fixA r d dP lim ld fr ++ ([I, c, cl, sc, sn, sv] ++ rest)).Nodup) : [r, d, dP, lim, ld, fr, I, c, cl, sc, sn, sv].Nodup := by
  rw [← List.append_assoc] at nd
  exact (List.nodup_append.mp nd).1
theorem Inv0.mono {w : World} {X X' : Led} {ps : List PK} {xs : List (List Str × Addr × Value)} {oP : Obj} {lv : Value} {kept0 : Int} {i i' : Nat} (h : Inv0 w X ps xs oP lv kept0 i) (s : ∀ q ∈ X, q ∈ X') (hX : TupsIn X') (hi : i ≤ i') : Inv0 w X' ps xs oP lv kept0 i' := by
  obtain ⟨a1, a2, a3, a4, a5, a6, a7⟩ := h
  exact ⟨a1.mono s, hX, a3, a4, by omega, by omega, fun p hp => (a7 p hp).mono s⟩
theorem in_tail {P X Y l : Led} {a : Addr × Obj} (hY : Y = P ++ X) (ha : a ∈ l) (hl : ∀ q ∈ Y, q ∈ l) : ∀ q ∈ P ++ (a :: X), q ∈ l := fun q hq => by
  rcases List.mem_append.mp hq with hq | hq
  · exact hl q (hY ▸ List.mem_append_left _ hq)
  · rcases List.mem_cons.mp hq with rfl | hq
    · exact ha
    · exact hl q (hY ▸ List.mem_append_right _ hq)
theorem tail_or {w : World} {ps : List PK} {X Y : Led} (h : ∀ p ∈ ps, Stands w X p) (hY : Y = progsLed ps ++ X) : ∀ q ∈ Y, q ∈ X ∨ q.2.cls ≠ .type "tuple" := fun q hq => by
  rw [hY] at hq
  rcases List.mem_append.mp hq with hq | hq
  · obtain ⟨p, hp, hm⟩ := List.mem_flatMap.mp hq
    obtain ⟨kvs, hp', _⟩ := h p hp
    exact .inr (hp'.cls q hm)
  · exact .inl hq
theorem same_pk {ps : List PK} : ∀ p ∈ ps, ∃ p' ∈ ps, p'.1 = p.1 ∧ p'.2.1 = p.2.1 := fun p hp => ⟨p, hp, rfl, rfl⟩
section
variable {w : World} {tw tl : Nat → Nat} {ov ol : Nat → Value} {c cl r d lim ld sv fr dP sc sn : Addr} {ul zf zc : Nat} {cells : List Value}
variable {h₀ h' : Heap} {L I D : Addr} {oI : Obj} {m' : Str → Option Value} {i tk : Nat} {s : Shared} {k : Int} {u t9 : Nat} {oc oP : Obj} {mv lv now : Value} {st : Int} {us : Nat} {scs sns svs : List Value} {zsc zsn zsv : Nat} {xs : List (List Str × Addr × Value)} {ps : List PK} {Ks : List (Int × Bool)} {past : List Trip} {X Y l : Led} {kept0 : Int}
/-- a scope is entered -/
theorem scope_end (F : Fr h₀ L h' m') (N : News h₀ L h' ((D, tupObj [.int ((svs.length : Nat) : Int) t9, now]) :: (c, oc) :: (cl, listOf cells.toArray zc) :: (I, oI) :: (sc, listOf (scs.toArray.push (.ref D)) zsc) :: (sn, listOf sns.toArray zsn) :: (sv, listOf svs.toArray zsv) :: (r, runObj d) :: (d, runDict w tw ov lim sv fr mv dP st us) :: (dP, oP) :: (lim, instObj 1053 ld) :: (ld, limDict w tl ol ul) :: (fr, listOf #[] zf) :: Y))
    (hY : Y = progsLed ps ++ X) (hcI : oI.cls = .type "range_iterator") (hM : LawM m' c r sc sn now) (hC : oc.IsDictOf (PySem.strKind pE w) (cupOf cl (k + 1) u)) (h0 : 0 ≤ k) (h1 : k ≤ 1 + 4 * (i : Int)) (V0 : Inv0 w X ps xs oP lv kept0 i) (V1 : Inv1 X ps sns Ks i) (V2 : Inv2 X ps past (mv, lv, now) svs scs i) (nd : (fixA r d dP lim ld fr ++ ([I, c, cl, sc, sn, sv] ++ adrOf (progsLed ps))).Nodup) :
    GrowEnd h₀ L I oI (LawInv w tw tl ov ol c cl r d lim ld sv fr dP sc sn ul zf zc cells (i + 1)) s { s with heap := h', toks := tk } := by
  have hX' : TupsIn ((D, tupObj [.int ((svs.length : Nat) : Int) t9, now]) :: X) := List.forall_mem_cons.mpr ⟨rfl, V0.2.1⟩
  have hl : svs.length = past.length := by rw [V2.2.2.1.len, List.length_map]
  rw [List.push_toArray] at N
  refine turn_end (zsc := zsc) (zsn := zsn) (zsv := zsv) (us := us) (st := st) (scs := scs ++ [.ref D]) (X := (D, tupObj [.int ((svs.length : Nat) : Int) t9, now]) :: X) F N ?_ hcI hM hC (by omega) (by omega) (V0.mono (fun q hq => .tail _ hq) hX' (Nat.le_succ i)) (V1.mono (fun p hp => ⟨p, hp, rfl⟩) (fun q hq => .tail _ hq) (Nat.le_succ i)) ((V2.mono same_pk (fun q hq => .tail _ hq) (Nat.le_refl i)).scope (t := t9) (a := D) ?_) nd
  · simp only [lawLed, runLed]
    repeat' (first | k_mem | refine' List.forall_mem_cons.mpr ⟨?_, ?_⟩)
    refine in_tail hY (.head _) ?_
    repeat' (first | exact sub_refl | refine' sub_cons ?_)
  · rw [hl]; exact .head _
/-- a scope is left -/
theorem leave_end {mk : Nat} {mv' lv' nw : Value} {tr : Trip} {ws' v1 : List Value} {xs' : List (List Str × Addr × Value)} {oP' : Obj} {X' : Led} {zs1 zs2 : Nat} (F : Fr h₀ L h' m') (N : News h₀ L h' l)
    (sub : ∀ q ∈ (I, oI) :: lawLed w tw tl ov ol c cl r d lim ld sv fr dP sc sn ul zf zc cells oc oP' mv' st us ws' sns v1 zs1 zsn zs2 ps X, q ∈ l) (TP : PatTab w X' oP' xs') (hX' : ∀ q ∈ X', q ∈ X ∨ q.2.cls ≠ .type "tuple") (TT : TabTo xs xs' mv lv mv' lv' ((past.map fun t => (t.1, t.2.1)).drop mk))
    (hcI : oI.cls = .type "range_iterator") (hM : LawM m' c r sc sn nw) (hC : oc.IsDictOf (PySem.strKind pE w) (cupOf cl (k + 1) u)) (h0 : 0 ≤ k) (h1 : k ≤ 1 + 4 * (i : Int)) (hi : i < 9) (V0 : Inv0 w X ps xs oP lv kept0 i) (V1 : Inv1 X ps sns Ks i) (V2 : Inv2 X ps past (mv, lv, now) svs scs i)
    (S6 : ScopesAre X (past ++ [(mv, lv, now)]) ws' mk) (hmk : mk ≤ past.length) (ht : (past ++ [(mv, lv, now)])[mk]? = some tr) (hnw : tr.2.2 = nw) (S7 : SavesAre X v1 ((past.map fun t => (t.1, t.2.1)).take mk)) (hws : ws'.length ≤ i) (nd : (fixA r d dP lim ld fr ++ ([I, c, cl, sc, sn, sv] ++ adrOf (progsLed ps))).Nodup) :
    GrowEnd h₀ L I oI (LawInv w tw tl ov ol c cl r d lim ld sv fr dP sc sn ul zf zc cells (i + 1)) s { s with heap := h', toks := tk } := by
  obtain ⟨t1, t2, t3, t4, t5⟩ := TT
  have e : tr = (mv', lv', nw) := by
    have h9 : ((past.map fun t => (t.1, t.2.1)).drop mk ++ [(mv, lv)]).head? = some (tr.1, tr.2.1) := by
      have : (past.map fun t => (t.1, t.2.1)).drop mk ++ [(mv, lv)] = ((past ++ [(mv, lv, now)]).map fun t => (t.1, t.2.1)).drop mk := by
        rw [List.map_append, List.drop_append_of_le_length (by rw [List.length_map]; exact hmk)]; rfl
      rw [this, List.head?_drop, List.getElem?_map, ht]; rfl
    rw [List.headD_eq_head?_getD, h9] at t5
    injection t5 with t5 t6
    rw [t5, t6, ← hnw]
  have V3 := V2.left S6 hmk ht S7 hws
  rw [e] at V3
  have hpl := V2.2.2.2.1
  have hdl : ((past.map fun t => (t.1, t.2.1)).drop mk).length ≤ 9 := by rw [List.length_drop, List.length_map]; omega
  obtain ⟨a1, a2, a3, a4, a5, a6, a7⟩ := V0
  refine turn_end (zsc := zs1) (zsn := zsn) (zsv := zs2) (us := us) (st := st) F N sub hcI hM hC (by omega) (by omega) ⟨TP.shrink hX', a2, a3.last t2 t4, a4.last t2, by omega, by omega, a7⟩ (V1.mono (fun p hp => ⟨p, hp, rfl⟩) (fun _ h => h) (Nat.le_succ i)) (V3.mono same_pk (fun _ h => h) (Nat.le_succ i)) nd
end
theorem rowsT12_1 : True := by
  k_with "m call ref" => (first | (k_here; (with_reducible show wpAny _ _ (call (Value.ref 288) _) _ _ _); k_dflt (refine' Spec.tk (leave_spec ?t0 ?lo ?hl ?hn ?s1 ?s2 ?s3 ?s4 ?s5 ?s6 ?sX ?hz ?hv ?hS ?hm) ?kB ?kF ?kX ?kN ?kS ?kR ?kT ?kK ?kD ?kU ?_; (case hm => assumption); kwd_inv; (case hS => exact SavesAre.mono (by assumption) (by kt_eqs)); (case t0 => exact PatTab.mono2 (by assumption) (by kt_eqs)); (case lo => assumption); (case hl => assumption); (case hn => refine ⟨?_, ?_, ?_, ?_, ?_, ?_, ?_, ?_⟩ <;> repeat' (first | assumption | exact allNe_nil | refine' allNe_cons ?_ ?_ | k_ne)); (case s1 => k_ne); (case s2 => k_ne); (case s3 => k_ne); (case s4 => k_ne); (case s5 => k_ne); (case s6 => k_ne); (case sX => repeat' (first | assumption | exact allNe_nil | refine' allNe_cons ?_ ?_ | k_ne)); (case hz => tb_rel); (case hv => tb_rel)); k_dflt (rintro v' l' h' tk' ⟨e1', _, oP', xs', mv', lv', e2', TP', TT'⟩ F' N' ne'); subst e1'; subst e2'; (simp only [runLed, List.cons_append, List.nil_append, List.append_nil] at N'); clear ne'; (try dsimp only); (try k_sweep)) | fail "row")
  k_with "m compareOp NotEq ref ref" => (first | (k_here; (with_reducible show wpAny _ _ (compareOp CmpOp.NotEq (Value.ref _) (Value.ref _)) _ _ _); k_dflt (refine' scs_ne ?kN ?k1 ?k2 ?ku ?_; (case kN => k_asm); (case k1 => k_mem); (case k2 => k_mem); (case ku => ktr_units))) | fail "row")
  k_with "m execs cons" => (first | ((with_reducible show wpAny _ _ (execs (Stmt.Assign [Expr.Tuple _ _ _] (Expr.Tuple _ _ _) _ :: _) _) _ _ _); refine Hold.out ?_) | fail "row")
  trivial
-- part T13
@[reducible] noncomputable def lawTail2 : List Stmt := (⟨_, by conv => lhs; whnf⟩ : {b : List Stmt // List.drop 10 lawBody = b}).1
noncomputable abbrev selOf (w : World) (K : Int × Bool) (x d' rl e nm : Addr) (o : Obj) (vs : List Value) (ta tb tc td tg tr z : Nat) (gr reg : Int) : PK := (K, x, [(x, progObj d'), (d', progDict w ta tb tc td rl gr tg reg tr nm), (rl, listOf (vs ++ [Value.ref e]).toArray z), (nm, o)])
inductive Two (a b : Addr) : List Addr → Prop
  | here {l : List Addr} : b ∈ l → Two a b (a :: l)
  | rev {l : List Addr} : a ∈ l → Two a b (b :: l)
  | skip {y : Addr} {l : List Addr} : Two a b l → Two a b (y :: l)
theorem Two.ne {a b : Addr} {l : List Addr} (h : Two a b l) (n : l.Nodup) : @Ne Nat a b := by
  induction h with
  | here h => exact fun e => (List.nodup_cons.mp n).1 (e ▸ h)
  | rev h => exact fun e => (List.nodup_cons.mp n).1 (e ▸ h)
  | skip _ ih => exact ih (List.nodup_cons.mp n).2
theorem law_ne16 {r d dP lim ld fr I c cl sc sn sv x d' rl nm : Addr} {rest : List Addr} (nd : (fixA r d dP lim ld fr ++ ([I, c, cl, sc, sn, sv] ++ ([x, d', rl, nm] ++ rest))).Nodup) : [r, d, dP, lim, ld, fr, I, c, cl, sc, sn, sv, x, d', rl, nm].Nodup := by
  rw [← List.append_assoc, ← List.append_assoc] at nd
  exact (List.nodup_append.mp nd).1
theorem stored_k {kvs : List (Str × Value)} {v : Value} (h : kvs = [] ∨ ∃ kt, kvs = [(Str.ofString "k", kt)]) : stored kvs (Str.ofString "k") v = [(Str.ofString "k", v)] := by
  rcases h with rfl | ⟨kt, rfl⟩ <;> rfl
theorem in_tailL {P X Y l pre : Led} (hY : Y = P ++ X) (hp : ∀ q ∈ pre, q ∈ l) (hl : ∀ q ∈ Y, q ∈ l) : ∀ q ∈ P ++ (pre ++ X), q ∈ l := fun q hq => by
  rcases List.mem_append.mp hq with hq | hq
  · exact hl q (hY ▸ List.mem_append_left _ hq)
  · rcases List.mem_append.mp hq with hq | hq
    · exact hp q hq
    · exact hl q (hY ▸ List.mem_append_right _ hq)
section
variable {w : World} {tw tl : Nat → Nat} {ov ol : Nat → Value} {c cl r d lim ld sv fr dP sc sn : Addr} {ul zf zc : Nat} {cells : List Value} {h₀ h' : Heap} {L I : Addr} {m' : Str → Option Value} {s : Shared} {i tk : Nat} {oI : Obj}
  {K : Int × Bool} {x d' rl e nm kk : Addr} {o o' oc oP : Obj} {vs : List Value} {cs9 : List Str} {ta tb tc td tg tr z ze tkk us zsc zsn zsv u : Nat} {gr reg st kept0 k : Int} {kvs : List (Str × Value)} {others : List PK} {X l : Led} {xs : List (List Str × Addr × Value)} {mv lv now : Value} {scs sns svs : List Value} {Ks : List (Int × Bool)} {past : List Trip}
theorem sel_same : ∀ p ∈ selOf w K x d' rl e nm o vs ta tb tc td tg tr z gr reg :: others, ∃ p' ∈ selOf w K x d' rl e nm o' vs ta tb tc td tg tr z gr reg :: others, p'.1 = p.1 ∧ p'.2.1 = p.2.1 := fun p hp => by
  rcases List.mem_cons.mp hp with rfl | hp
  · exact ⟨_, .head _, rfl, rfl⟩
  · exact ⟨p, .tail _ hp, rfl, rfl⟩
theorem TabOk.same {ps ps' : List PK} (h : TabOk xs ps lv) (s1 : ∀ p ∈ ps, ∃ p' ∈ ps', p'.1 = p.1 ∧ p'.2.1 = p.2.1) (s2 : ∀ p ∈ ps', ∃ p' ∈ ps, p'.1 = p.1 ∧ p'.2.1 = p.2.1) : TabOk xs ps' lv :=
  ⟨h.1, fun j b px hp => (h.2.1 j b px hp).imp id fun ⟨p, m, e1, e2⟩ => let ⟨p', m', f1, f2⟩ := s1 p m; ⟨p', m', f1.trans e1, by rw [f2]; exact e2⟩,
    fun p hp px hpx => by
      obtain ⟨p', m', f1, f2⟩ := s2 p hp
      have := h.2.2 p' m' px (by rw [f1]; exact hpx)
      rw [f1, f2] at this; exact this⟩
theorem tail_end (F : Fr h₀ L h' m') (N : News h₀ L h' l) (sub : ∀ q ∈ (I, oI) :: lawLed w tw tl ov ol c cl r d lim ld sv fr dP sc sn ul zf zc cells oc oP mv st us scs (sns ++ [.ref kk]) svs zsc zsn zsv (selOf w K x d' rl e nm o' vs ta tb tc td tg tr z gr reg :: others) X, q ∈ l)
    (hcI : oI.cls = .type "range_iterator") (hM : LawM m' c r sc sn now) (hC : oc.IsDictOf (PySem.strKind pE w) (cupOf cl k u)) (hk0 : 0 ≤ k) (hk1 : k ≤ 1 + 4 * ((i + 1 : Nat) : Int)) (hD : o'.IsDictOf (PySem.strKind pE w) (stored kvs (Str.ofString "k") (.ref kk))) (hkv : kvs = [] ∨ ∃ kt, kvs = [(Str.ofString "k", .ref kt)])
    (hkey : KeyOf K.1 cs9) (hS : Signs K.2 X cs9 vs) (he : (e, tupObj [.str (Str.ofString "end") ze]) ∈ X) (lo9 : (nm == sysModules) = false) (hkk : (kk, keyObj K.1 tkk K.2) ∈ X)
    (VT : PatTab w X oP xs) (hX : TupsIn X) (VK : TabOk xs (selOf w K x d' rl e nm o vs ta tb tc td tg tr z gr reg :: others) lv) (VP : KeptIs xs kept0) (vk0 : kept0 ≤ 3 * ((i + 1 : Nat) : Int)) (vx0 : xs.length ≤ 20 * (i + 1)) (VS : ∀ p ∈ others, Stands w X p)
    (V1 : Inv1 X (selOf w K x d' rl e nm o vs ta tb tc td tg tr z gr reg :: others) sns Ks i) (V2 : Inv2 X (selOf w K x d' rl e nm o vs ta tb tc td tg tr z gr reg :: others) past (mv, lv, now) svs scs (i + 1))
    (nd : (fixA r d dP lim ld fr ++ (([I, c, cl, sc, sn, sv] ++ [x, d', rl, nm]) ++ adrOf (progsLed others))).Nodup) :
    GrowEnd h₀ L I oI (LawInv w tw tl ov ol c cl r d lim ld sv fr dP sc sn ul zf zc cells (i + 1)) s { s with heap := h', toks := tk } := by
  rw [stored_k (hkv.imp id fun ⟨kt, h⟩ => ⟨_, h⟩)] at hD
  have sel' : Stands w X (selOf w K x d' rl e nm o' vs ta tb tc td tg tr z gr reg) := ⟨_, ⟨d', rl, e, nm, o', vs, cs9, ta, tb, tc, td, gr, tg, reg, tr, z, ze, rfl, he, hkey, hS, hD, lo9⟩, kk, tkk, rfl, hkk⟩
  refine turn_end (zsc := zsc) (zsn := zsn) (zsv := zsv) (us := us) (st := st) F N sub hcI hM hC hk0 hk1 ⟨VT, hX, VK.same sel_same sel_same, VP, vk0, vx0, fun p hp => ?_⟩ (Ks := Ks ++ [K]) ⟨.snoc V1.1 hkk, fun K' hK' => ?_, ?_⟩ (V2.mono sel_same (fun _ h => h) (Nat.le_refl _)) ?_
  · rcases List.mem_cons.mp hp with rfl | hp
    · exact sel'
    · exact VS p hp
  · rcases List.mem_append.mp hK' with hK' | hK'
    · obtain ⟨p, hp, e1⟩ := V1.2.1 K' hK'
      obtain ⟨p', hp', e2, _⟩ := sel_same (o' := o') p hp
      exact ⟨p', hp', e2.trans e1⟩
    · rw [List.mem_singleton.mp hK']
      exact ⟨_, .head _, rfl⟩
  · rw [List.length_append, List.length_singleton]
    have := V1.2.2
    omega
  · rw [List.append_assoc] at nd; exact nd
theorem tail_end0 {Y : Led} (hY : Y = progsLed others ++ X) (F : Fr h₀ L h' m') (N : News h₀ L h' ((kk, keyObj K.1 tkk K.2) :: (I, oI) :: (c, oc) :: (cl, listOf cells.toArray zc) :: (sc, listOf scs.toArray zsc) :: (sn, listOf (sns.toArray.push (.ref kk)) zsn) :: (sv, listOf svs.toArray zsv) :: (r, runObj d) :: (d, runDict w tw ov lim sv fr mv dP st us) :: (dP, oP) :: (lim, instObj 1053 ld) :: (ld, limDict w tl ol ul) :: (fr, listOf #[] zf) :: (x, progObj d') :: (d', progDict w ta tb tc td rl gr tg reg tr nm) :: (rl, listOf (vs ++ [Value.ref e]).toArray z) :: (nm, o') :: Y))
    (hcI : oI.cls = .type "range_iterator") (hM : LawM m' c r sc sn now) (hC : oc.IsDictOf (PySem.strKind pE w) (cupOf cl k u)) (hk0 : 0 ≤ k) (hk1 : k ≤ 1 + 4 * ((i + 1 : Nat) : Int)) (hD : o'.IsDictOf (PySem.strKind pE w) (stored kvs (Str.ofString "k") (.ref kk))) (hkv : kvs = [] ∨ ∃ kt, kvs = [(Str.ofString "k", .ref kt)])
    (hkey : KeyOf K.1 cs9) (hS : Signs K.2 X cs9 vs) (he : (e, tupObj [.str (Str.ofString "end") ze]) ∈ X) (lo9 : (nm == sysModules) = false) (hkk : (kk, keyObj K.1 tkk K.2) ∈ X)
    (VT : PatTab w X oP xs) (hX : TupsIn X) (VK : TabOk xs (selOf w K x d' rl e nm o vs ta tb tc td tg tr z gr reg :: others) lv) (VP : KeptIs xs kept0) (vk0 : kept0 ≤ 3 * ((i + 1 : Nat) : Int)) (vx0 : xs.length ≤ 20 * (i + 1)) (VS : ∀ p ∈ others, Stands w X p)
    (V1 : Inv1 X (selOf w K x d' rl e nm o vs ta tb tc td tg tr z gr reg :: others) sns Ks i) (V2 : Inv2 X (selOf w K x d' rl e nm o vs ta tb tc td tg tr z gr reg :: others) past (mv, lv, now) svs scs (i + 1))
    (nd : (fixA r d dP lim ld fr ++ (([I, c, cl, sc, sn, sv] ++ [x, d', rl, nm]) ++ adrOf (progsLed others))).Nodup) :
    GrowEnd h₀ L I oI (LawInv w tw tl ov ol c cl r d lim ld sv fr dP sc sn ul zf zc cells (i + 1)) s { s with heap := h', toks := tk } := by
  rw [List.push_toArray] at N
  refine tail_end (o := o) (zsc := zsc) (zsn := zsn) (zsv := zsv) (us := us) (st := st) F N ?_ hcI hM hC hk0 hk1 hD hkv hkey hS he lo9 hkk VT hX VK VP vk0 vx0 VS V1 V2 nd
  simp only [lawLed, runLed]
  repeat' (first | k_mem | refine' List.forall_mem_cons.mpr ⟨?_, ?_⟩)
  show ∀ q ∈ progsLed others ++ X, _
  rw [← hY]
  repeat' (first | exact sub_refl | refine' sub_cons ?_)
theorem tail_end1 {Y : Led} {a' D1 D2 l' : Addr} {z' zl : Nat} {o1 o2 oP' : Obj} {al : Array Value} (hY : Y = progsLed others ++ X) (F : Fr h₀ L h' m') (N : News h₀ L h' ((a', matchObj z' mv lv) :: (sv, listOf (svs.toArray.push (.ref a')) zsv) :: (r, runObj d) :: (d, runDict w tw ov lim sv fr (.ref D1) dP st us) :: (dP, oP') :: (lim, instObj 1053 ld) :: (ld, limDict w tl ol ul) :: (fr, listOf #[] zf) :: (D1, o1) :: (l', listOf al zl) :: (D2, o2) :: (kk, keyObj K.1 tkk K.2) :: (I, oI) :: (c, oc) :: (cl, listOf cells.toArray zc) :: (sc, listOf scs.toArray zsc) :: (sn, listOf (sns.toArray.push (.ref kk)) zsn) :: (x, progObj d') :: (d', progDict w ta tb tc td rl gr tg reg tr nm) :: (rl, listOf (vs ++ [Value.ref e]).toArray z) :: (nm, o') :: Y))
    (ho1 : o1.cls = .type "tuple") (ho2 : o2.cls = .type "tuple") (hcI : oI.cls = .type "range_iterator") (hM : LawM m' c r sc sn (.ref kk)) (hC : oc.IsDictOf (PySem.strKind pE w) (cupOf cl k u)) (hk0 : 0 ≤ k) (hk1 : k ≤ 1 + 4 * ((i + 1 : Nat) : Int)) (hD : o'.IsDictOf (PySem.strKind pE w) (stored kvs (Str.ofString "k") (.ref kk))) (hkv : kvs = [] ∨ ∃ kt, kvs = [(Str.ofString "k", .ref kt)])
    (hkey : KeyOf K.1 cs9) (hS : Signs K.2 X cs9 vs) (he : (e, tupObj [.str (Str.ofString "end") ze]) ∈ X) (lo9 : (nm == sysModules) = false) (hkk : (kk, keyObj K.1 tkk K.2) ∈ X)
    (VT : PatTab w ((a', matchObj z' mv lv) :: (D1, o1) :: (l', listOf al zl) :: (D2, o2) :: (kk, keyObj K.1 tkk K.2) :: (I, oI) :: (c, oc) :: (cl, listOf cells.toArray zc) :: (sc, listOf scs.toArray zsc) :: (sn, listOf (sns.toArray.push (.ref kk)) zsn) :: (x, progObj d') :: (d', progDict w ta tb tc td rl gr tg reg tr nm) :: (rl, listOf (vs ++ [Value.ref e]).toArray z) :: (nm, o') :: Y) oP' (storedH xs kLast 175 (.ref x)))
    (hX : TupsIn X) (VK : TabOk xs (selOf w K x d' rl e nm o vs ta tb tc td tg tr z gr reg :: others) lv) (VP : KeptIs xs kept0) (vk0 : kept0 ≤ 3 * ((i + 1 : Nat) : Int)) (vx0 : xs.length ≤ 20 * i + 2) (VS : ∀ p ∈ others, Stands w X p)
    (V1 : Inv1 X (selOf w K x d' rl e nm o vs ta tb tc td tg tr z gr reg :: others) sns Ks i) (V2 : Inv2 X (selOf w K x d' rl e nm o vs ta tb tc td tg tr z gr reg :: others) past (mv, lv, now) svs scs i)
    (nd : (fixA r d dP lim ld fr ++ (([I, c, cl, sc, sn, sv] ++ [x, d', rl, nm]) ++ adrOf (progsLed others))).Nodup) :
    GrowEnd h₀ L I oI (LawInv w tw tl ov ol c cl r d lim ld sv fr dP sc sn ul zf zc cells (i + 1)) s { s with heap := h', toks := tk } := by
  rw [List.push_toArray, List.push_toArray] at N
  have s3 : ∀ q ∈ X, q ∈ (a', matchObj z' mv lv) :: (D1, o1) :: (D2, o2) :: X := fun q hq => .tail _ (.tail _ (.tail _ hq))
  have hX3 : TupsIn ((a', matchObj z' mv lv) :: (D1, o1) :: (D2, o2) :: X) := List.forall_mem_cons.mpr ⟨rfl, List.forall_mem_cons.mpr ⟨ho1, List.forall_mem_cons.mpr ⟨ho2, hX⟩⟩⟩
  have V3 := (V2.mono same_pk s3 (Nat.le_refl i)).push (cur' := (.ref D1, .ref x, .ref kk)) rfl (.inr ⟨_, .head _, kk, tkk, rfl, rfl, s3 _ hkk⟩) (List.Mem.head _)
  refine tail_end (o := o) (zsc := zsc) (zsn := zsn) (zsv := zsv) (us := us) (st := st) (X := (a', matchObj z' mv lv) :: (D1, o1) :: (D2, o2) :: X) F N ?_ hcI hM hC hk0 hk1 hD hkv hkey (hS.mono s3) (s3 _ he) lo9 (s3 _ hkk) (VT.shrink ?_) hX3 (VK.last (fun k9 hk9 => by rw [pv_stored, if_neg (Ne.symm hk9)]) (by rw [pv_stored, if_pos rfl]; rfl)) (VP.last fun k9 hk9 => by rw [pv_stored, if_neg (Ne.symm hk9)]) vk0 (Nat.le_trans (storedH_le vx0) (by omega)) (fun p hp => (VS p hp).mono s3) (V1.mono (fun p hp => ⟨p, hp, rfl⟩) s3 (Nat.le_refl _)) V3 nd
  · simp only [lawLed, runLed]
    repeat' (first | k_mem | refine' List.forall_mem_cons.mpr ⟨?_, ?_⟩)
    show ∀ q ∈ progsLed others ++ ([(a', matchObj z' mv lv), (D1, o1), (D2, o2)] ++ X), _
    refine in_tailL hY ?_ ?_
    · repeat' (first | exact List.forall_mem_nil _ | k_mem | refine' List.forall_mem_cons.mpr ⟨?_, ?_⟩)
    · repeat' (first | exact sub_refl | refine' sub_cons ?_)
  · have nt : ∀ {ob : Obj}, ob.cls ≠ .type "tuple" → ∀ {a : Addr}, (a, ob) ∈ (a', matchObj z' mv lv) :: (D1, o1) :: (D2, o2) :: X ∨ ob.cls ≠ .type "tuple" := fun h => .inr h
    have hDc := dict_cls hD
    refine List.forall_mem_cons.mpr ⟨.inl (.head _), List.forall_mem_cons.mpr ⟨.inl (.tail _ (.head _)), List.forall_mem_cons.mpr ⟨.inr (by simp), List.forall_mem_cons.mpr ⟨.inl (.tail _ (.tail _ (.head _))), List.forall_mem_cons.mpr ⟨.inl (s3 _ hkk), List.forall_mem_cons.mpr ⟨.inr (by rw [hcI]; decide), List.forall_mem_cons.mpr ⟨.inr (by rw [dict_cls hC]; decide), List.forall_mem_cons.mpr ⟨.inr (by simp), List.forall_mem_cons.mpr ⟨.inr (by simp), List.forall_mem_cons.mpr ⟨.inr (by simp), List.forall_mem_cons.mpr ⟨.inr (by simp), List.forall_mem_cons.mpr ⟨.inr (by simp), List.forall_mem_cons.mpr ⟨.inr (by simp), List.forall_mem_cons.mpr ⟨.inr (by rw [hDc]; decide), fun q hq => (tail_or VS hY q hq).imp (s3 q) id⟩⟩⟩⟩⟩⟩⟩⟩⟩⟩⟩⟩⟩⟩
end
theorem rowsT13_1 : True := by
  k_with "n k_ne" => (first | ((refine neN ?_; (try dsimp only); refine' Two.ne ?w9 ?n9; (case n9 => assumption); (case w9 => repeat' (first | (refine Two.here ?_; (repeat (first | exact List.Mem.head _ | refine List.Mem.tail _ ?_)); done) | (refine Two.rev ?_; (repeat (first | exact List.Mem.head _ | refine List.Mem.tail _ ?_)); done) | refine Two.skip ?_)))) | fail "row")
  k_with "m call ref" => (first | ((with_reducible show wpAny _ _ (call (Value.ref 196) _) _ _ _); refine Hold.out ?_) | fail "row")
  k_with "m setItem ref str" => (first | (k_here; k_dflt (refine' kda_set (knd := PySem.strKind _ _) ?F ?N ?U ?d (strKind_is _ _ _ _) ?z ?_; (case F => k_asm); (case N => k_asm); (case U => k_updF); (case d => assumption); (case z => rw [sizeLine_eq]; first | assumption | exact Nat.le_of_ble_eq_true (by with_unfolding_all rfl))); intro h' o' F' N' hd'; (try dsimp only at N')) | fail "row")
  trivial
set_option maxHeartbeats 4000000 in
theorem law_tail2 {w : World} {tw tl : Nat → Nat} {ov ol : Nat → Value} {c cl r d lim ld sv fr dP sc sn : Addr} {ul zf zc : Nat} {cells : List Value} {mean : ExcName → Option Value} {mg mb : Str → Option Value} {h₀ h : Heap} {L I : Addr} {m : Str → Option Value} {s : Shared} {Q : Flow → Shared → Prop} {E : Value → Shared → Prop} {i tk : Nat} {oI : Obj}
    {K : Int × Bool} {x d' rl e nm kk : Addr} {o oc oP : Obj} {vs : List Value} {cs9 : List Str} {ta tb tc td tg tr z ze tkk us zsc zsn zsv u tw9 : Nat} {gr reg way st kept0 k : Int} {kvs : List (Str × Value)} {others : List PK} {X : Led} {xs : List (List Str × Addr × Value)} {mv lv now : Value} {scs sns svs : List Value} {Ks : List (Int × Bool)} {past : List Trip}
    {QQ : Flow → Shared → Prop} (hQQ : QQ = GrowPost h₀ L I oI (LawInv w tw tl ov ol c cl r d lim ld sv fr dP sc sn ul zf zc cells (i + 1)) { s with heap := h, toks := tk } Q) (loP : (dP == sysModules) = false) (KX : (KF w.params).In h₀) (T : TopE mean mg mb h₀) (B : Below callerA h₀ [] h₀) (hi : i < 9) (hcI : oI.cls = .type "range_iterator")
    (hkey : KeyOf K.1 cs9) (hS : Signs K.2 X cs9 vs) (he : (e, tupObj [.str (Str.ofString "end") ze]) ∈ X) (hD : o.IsDictOf (PySem.strKind pE w) kvs) (hkv : kvs = [] ∨ ∃ kt, kvs = [(Str.ofString "k", .ref kt)]) (lo9 : (nm == sysModules) = false) (hkk : (kk, keyObj K.1 tkk K.2) ∈ X)
    (V0 : PatTab w X oP xs ∧ TupsIn X ∧ TabOk xs (selOf w K x d' rl e nm o vs ta tb tc td tg tr z gr reg :: others) lv ∧ KeptIs xs kept0 ∧ kept0 ≤ 3 * ((i + 1 : Nat) : Int) ∧ xs.length ≤ 20 * i + 2 ∧ ∀ p ∈ others, Stands w X p)
    (V1 : Inv1 X (selOf w K x d' rl e nm o vs ta tb tc td tg tr z gr reg :: others) sns Ks i) (V2 : Inv2 X (selOf w K x d' rl e nm o vs ta tb tc td tg tr z gr reg :: others) past (mv, lv, now) svs scs i)
    (hC : oc.IsDictOf (PySem.strKind pE w) (cupOf cl k u)) (hk0 : 0 ≤ k) (hk1 : k ≤ 1 + 4 * ((i + 1 : Nat) : Int))
    (nd : (fixA r d dP lim ld fr ++ ([I, c, cl, sc, sn, sv] ++ adrOf (progsLed (selOf w K x d' rl e nm o vs ta tb tc td tg tr z gr reg :: others)))).Nodup)
    (hM : LawM m c r sc sn now) (hp : m (Str.ofString "program") = some (.ref x)) (hkl : m (Str.ofString "key") = some (.ref kk)) (hw : m (Str.ofString "way") = some (.int way tw9)) (F : Fr h₀ L h m)
    (N : News h₀ L h ((I, oI) :: lawLed w tw tl ov ol c cl r d lim ld sv fr dP sc sn ul zf zc cells oc oP mv st us scs sns svs zsc zsn zsv (selOf w K x d' rl e nm o vs ta tb tc td tg tr z gr reg :: others) X)) :
    wpAny (model pE w) (callerA.deeper (envOf (Str.ofString "law") Sc119 L 1097 (.ref 1096))) (execs lawTail2 (envOf (Str.ofString "law") Sc119 L 1097 (.ref 1096))) QQ E { s with heap := h, toks := tk } := by
  have nd2 : (fixA r d dP lim ld fr ++ (([I, c, cl, sc, sn, sv] ++ [x, d', rl, nm]) ++ adrOf (progsLed others))).Nodup := by
    rw [List.append_assoc]; exact nd
  have n16 : [r, d, dP, lim, ld, fr, I, c, cl, sc, sn, sv, x, d', rl, nm].Nodup := law_ne16 nd
  clear nd
  obtain ⟨VT, hX, VK, VP, vk0, vx0, VS⟩ := V0
  have hXl : ∀ q ∈ X, q ∈ progsLed (selOf w K x d' rl e nm o vs ta tb tc td tg tr z gr reg :: others) ++ X := fun q hq => List.mem_append_right _ hq
  have sub : ∀ q ∈ X, q ∈ (I, oI) :: lawLed w tw tl ov ol c cl r d lim ld sv fr dP sc sn ul zf zc cells oc oP mv st us scs sns svs zsc zsn zsv (selOf w K x d' rl e nm o vs ta tb tc td tg tr z gr reg :: others) X := fun q hq => .tail _ (.tail _ (.tail _ (.tail _ (.tail _ (.tail _ (.tail _ (.tail _ (.tail _ (.tail _ (.tail _ (.tail _ (hXl q hq))))))))))))
  have Ysn : AllNe sn (progsLed others ++ X) := allNe_progs nd2 (.inr (by simp)) N hX sub (.tail _ (.tail _ (.tail _ (.tail _ (.head _))))) (by simp)
  have Ysv : AllNe sv (progsLed others ++ X) := allNe_progs nd2 (.inr (by simp)) N hX sub (.tail _ (.tail _ (.tail _ (.tail _ (.tail _ (.head _)))))) (by simp)
  have Yd : AllNe d (progsLed others ++ X) := allNe_progs nd2 (.inl (by simp)) N hX sub (.tail _ (.tail _ (.tail _ (.tail _ (.tail _ (.tail _ (.tail _ (.head _)))))))) (by simp)
  have YdP : AllNe dP (progsLed others ++ X) := allNe_progs nd2 (.inl (by simp)) N hX sub (.tail _ (.tail _ (.tail _ (.tail _ (.tail _ (.tail _ (.tail _ (.tail _ (.head _))))))))) (by rw [VT.1.1]; decide)
  have Ynm : AllNe nm (progsLed others ++ X) := allNe_progs nd2 (.inr (by simp)) N hX sub (.tail _ (.tail _ (.tail _ (.tail _ (.tail _ (.tail _ (.tail _ (.tail _ (.tail _ (.tail _ (.tail _ (.tail _ (.tail _ (.tail _ (.tail _ (.head _)))))))))))))))) (by rw [dict_cls hD]; decide)
  replace N := News.cons9 N hkk sub
  have e9 : m = fun y => if y = Str.ofString "program" then some (.ref x) else if y = Str.ofString "key" then some (.ref kk) else if y = Str.ofString "way" then some (.int way tw9) else lawMap c r sc sn now m y := by
    funext y
    by_cases q1 : y = Str.ofString "program"
    · rw [q1]; exact hp
    by_cases q2 : y = Str.ofString "key"
    · rw [q2]; exact hkl
    by_cases q3 : y = Str.ofString "way"
    · rw [q3]; exact hw
    · rw [if_neg q1, if_neg q2, if_neg q3]; exact congrFun hM.map y
  rw [e9] at F
  let mm : Str → Option Value := fun y => if y = Str.ofString "program" then some (.ref x) else if y = Str.ofString "key" then some (.ref kk) else if y = Str.ofString "way" then some (.int way tw9) else lawMap c r sc sn now m y
  replace F : Fr h₀ L h mm := F
  obtain ⟨Y, hY⟩ : ∃ Y, Y = progsLed others ++ X := ⟨_, rfl⟩
  replace N : News h₀ L h ((kk, keyObj K.1 tkk K.2) :: (I, oI) :: (c, oc) :: (cl, listOf cells.toArray zc) :: (sc, listOf scs.toArray zsc) :: (sn, listOf sns.toArray zsn) :: (sv, listOf svs.toArray zsv) :: (r, runObj d) :: (d, runDict w tw ov lim sv fr mv dP st us) :: (dP, oP) :: (lim, instObj 1053 ld) :: (ld, limDict w tl ol ul) :: (fr, listOf #[] zf) :: (x, progObj d') :: (d', progDict w ta tb tc td rl gr tg reg tr nm) :: (rl, listOf (vs ++ [Value.ref e]).toArray z) :: (nm, o) :: Y) := hY ▸ N
  rw [← hY] at Ysn Ysv Yd YdP Ynm
  have hsn9 : sns.length ≤ 9 := by
    rw [V1.1.len]
    have := V1.2.2
    omega
  have hsv9 : svs.length ≤ 9 := by
    rw [V2.2.2.1.len, List.length_map]
    have := V2.2.2.2.1
    omega
  have hmv : handedIn mv = true := (V2.1 (mv, lv, now) (by simp)).1
  have hl9 := VK.1
  have hkn : @Ne Nat nm kk := allNe_at Ynm _ (hY ▸ List.mem_append_right _ hkk)
  have hkP : @Ne Nat dP kk := allNe_at YdP _ (hY ▸ List.mem_append_right _ hkk)
  have hXY : ∀ q ∈ X, q ∈ Y := fun q hq => hY ▸ List.mem_append_right _ hq
  have TY : PatTab w Y oP xs := VT.mono hXY
  have hkz : kvs.length ≤ 16777216 := by rcases hkv with h | ⟨kt, h⟩ <;> (rw [h]; simp)
  refine law_fold ?_
  intro e9 A9
  k_steps
  · refine Hold.go ?_
    k_here
    k_dflt (refine' Spec.tk (set_match_spec (sv := sv) (d := d) (dP := dP) (lim := lim) (ld := ld) (fr := fr) (vs := svs) ?t0 ?lo ?hl ?hn ?s1 ?s2 ?s3 ?s4 ?s5 ?s6 ?sX ?hh ?hz ?hv) ?kB ?kF ?kX ?kN ?kS ?kR ?kT ?kK ?kD ?kU ?_)
    case hl => assumption
    kwd_inv
    case t0 => exact PatTab.mono2 (by assumption) (by kt_eqs)
    case lo => assumption
    case hh => assumption
    case hn => refine ⟨?_, ?_, ?_, ?_, ?_, ?_, ?_, ?_⟩ <;> repeat' (first | assumption | exact allNe_nil | refine' allNe_cons ?_ ?_ | k_ne)
    case s1 => k_ne
    case s2 => k_ne
    case s3 => k_ne
    case s4 => k_ne
    case s5 => k_ne
    case s6 => k_ne
    case sX => repeat' (first | assumption | exact allNe_nil | refine' allNe_cons ?_ ?_ | k_ne)
    case hz => tb_rel
    case hv => tb_rel
    k_dflt (rintro v' l' h' tk' ⟨e1', a', z', _, oP', e2', TP'⟩ F' N' ne')
    subst e1'
    subst e2'
    simp only [runLed, List.cons_append, List.nil_append, List.append_nil] at N'
    clear ne'
    k_steps
    rename News _ _ _ _ => N9
    rename PatTab _ _ _ (storedH _ _ _ _) => TP9
    rename Obj.IsDictOf (PySem.strKind pE w) _ (stored _ _ _) => hD9
    subst hQQ
    exact tail_end1 (o := o) hY (by assumption) N9 rfl rfl hcI ⟨rfl, rfl, rfl, rfl, rfl⟩ hC hk0 hk1 hD9 hkv hkey hS he lo9 hkk TP9 hX VK VP vk0 vx0 VS V1 V2 nd2
  · rename News _ _ _ _ => N9
    rename Obj.IsDictOf (PySem.strKind pE w) _ (stored _ _ _) => hD9
    subst hQQ
    exact tail_end0 (o := o) hY (by assumption) N9 hcI ⟨rfl, rfl, rfl, rfl, rfl⟩ hC hk0 hk1 hD9 hkv hkey hS he lo9 hkk VT hX VK VP vk0 (by omega) VS V1 (V2.mono same_pk (fun _ h => h) (Nat.le_succ i)) nd2
-- part T14
@[reducible] noncomputable def lawTail : List Stmt := (⟨_, by conv => lhs; whnf⟩ : {b : List Stmt // List.drop 8 lawBody = b}).1
theorem due_ro {kt : Addr} {j : Int} {tj : Nat} {b : Bool} {cs' : List Str} (v : Value) (l : Led) (h : Post (fun v l X => ∃ f e ze z vs, v = .ref f ∧ l = [(f, listOf (vs ++ [Value.ref e]).toArray z), (e, tupObj [.str (Str.ofString "end") ze]), (kt, keyObj j tj b)] ∧ Signs b X cs' vs) v l) : ∀ r ∈ [(kt, keyObj j tj b)], r ∈ l := by
  obtain ⟨l0, X, rfl, _, f, e, ze, z, vs, _, rfl, _⟩ := h
  exact List.forall_mem_cons.mpr ⟨.tail _ (.tail _ (.head _)), List.forall_mem_nil _⟩
section
variable {w : World} {mean : ExcName → Option Value} {mg mb : Str → Option Value} {dp un : Nat} {gd : Option (List Code)} {cn : Str} {cs : Scope} {a : Addr} {ccd : Value} {cl : List (Str × Addr)} {outer : List Env} {A₀ : Around} {base h₀ : Heap} {L : Addr} {m : Str → Option Value} {s : Shared} {Q E : Value → Shared → Prop} {news : Led} {kt : Addr} {j : Int} {tj : Nat} {b : Bool} {cs' : List Str}
theorem due_call (hj : KeyOf j cs') (B : Below A₀ base outer h₀) (F : Fr h₀ L s.heap m) (X : (KF w.params).In h₀) (N : News h₀ L s.heap news) (hm : (kt, keyObj j tj b) ∈ news) (T : TopE mean mg mb h₀) (hk : cs.kind = .function) (hd : dp + 6 < recursionLimit) (hu : un + 100 < cLine)
    (ret : ∀ f h' tk', (∃ as, Reads h' (.ref f) (rowsData b cs') as) → Fr h₀ L h' m → News h₀ L h' news → Q (.ref f) { s with heap := h', toks := tk' }) :
    wpAny (model pE w) (ktrTop dp un gd cn cs L a ccd cl outer) (call (.ref 1083) [.ref kt]) Q E s := by
  refine Spec.tkR [] [(kt, keyObj j tj b)] (due_spec hj) due_ro B F X N (List.forall_mem_cons.mpr ⟨hm, List.forall_mem_nil _⟩) .nil apart_none T hk hd hu fun v l h' tk' hP F' N' => ?_
  obtain ⟨l0, X', rfl, hX', f, e, ze, z, vs, rfl, rfl, hS⟩ := hP
  exact ret f h' tk' (reads_rows (s := { s with heap := h' }) (L := L) (h₀ := h₀) (fun q hq => N' q (List.mem_append_left _ hq)) (.head _) (.tail _ (.head _)) (fun q hq => List.mem_append_right _ hq) hS) F' fun q hq => N' q (List.mem_append_right _ hq)
theorem rows_ne9 {A : Around} {f e f' : Addr} {z ze : Nat} {vs : List Value} {X : Led} (hj : KeyOf j cs') (N : News h₀ L s.heap news) (hf : (f, listOf (vs ++ [Value.ref e]).toArray z) ∈ news) (he : (e, tupObj [.str (Str.ofString "end") ze]) ∈ news) (hX : ∀ q ∈ X, q ∈ news) (S : Signs b X cs' vs)
    (hr : ∃ as, Reads s.heap (.ref f') (rowsData b cs') as) (hu : A.units + 64 < cLine) (h : Q (.bool false) s) : wpAny (model pE w) A (compareOp .NotEq (.ref f) (.ref f')) Q E s := by
  obtain ⟨as, r⟩ := reads_rows N hf he hX S
  obtain ⟨bs, r'⟩ := hr
  have h1 : SeqAt.shaped (rowsData b cs') = true := by rcases hj with ⟨_, rfl⟩ | ⟨_, rfl⟩ | ⟨_, rfl⟩ | ⟨_, rfl⟩ <;> cases b <;> decide +kernel
  have h2 : (!PyData.eqv (rowsData b cs') (rowsData b cs')) = false := by rcases hj with ⟨_, rfl⟩ | ⟨_, rfl⟩ | ⟨_, rfl⟩ | ⟨_, rfl⟩ <;> cases b <;> decide +kernel
  exact ne_dataH r r' h1 h1 hu (by rw [h2]; exact h)
theorem names_get {A : Around} {nm : Addr} {o : Obj} {kvs : List (Str × Value)} {x : Str} {t : Nat} {dflt v9 : Value} (N : News h₀ L s.heap news) (hm : (nm, o) ∈ news) (hd : o.IsDictOf (PySem.strKind pE w) kvs) (lo : (nm == sysModules) = false) (hv : (valueAt kvs x).getD dflt = v9) (h : Q v9 { s with toks := s.toks + 1 }) :
    wpAny (model pE w) A (call (.builtin "dict.get") [.ref nm, .str x t, dflt]) Q E s :=
  kdg_get2 (knd := PySem.strKind pE w) N hm hd lo (strKind_is _ _ _ _) _ rfl (by rw [hv]; exact h)
theorem names_notin {A : Around} {nm : Addr} {o : Obj} {kvs : List (Str × Value)} {x : Str} {t : Nat} (N : News h₀ L s.heap news) (hm : (nm, o) ∈ news) (hd : o.IsDictOf (PySem.strKind pE w) kvs) (lo : (nm == sysModules) = false) (hv : (valueAt kvs x).isSome = true) (h : Q (.bool false) { s with toks := s.toks + 1 }) :
    wpAny (model pE w) A (compareOp .NotIn (.str x t) (.ref nm)) Q E s :=
  kdg_notin (knd := PySem.strKind pE w) N hm hd lo (strKind_is _ _ _ _) true hv h
end
theorem rowsT14_1 : True := by
  k_with "m call ref" => (first | (k_here; (with_reducible show wpAny _ _ (call (Value.ref 1083) _) _ _ _); k_dflt (refine' due_call ?hj ?kB ?kF ?kX ?kN ?hm ?kT ?kK ?kD ?kU ?_; (case hj => assumption); (case kN => k_asm); (case hm => k_mem); (case kB => k_asm); (case kF => k_asm); (case kX => k_asm); (case kT => k_asm); (case kK => first | exact rfl | assumption); (case kD => ktr_room); (case kU => ktr_units)); intro f' h' tk' hr' F' N'; (try dsimp only); (try k_sweep)) | fail "row")
  k_with "m compareOp NotEq ref ref" => (first | (k_here; (with_reducible show wpAny _ _ (compareOp CmpOp.NotEq (Value.ref _) (Value.ref _)) _ _ _); k_dflt (first | (refine' key_ne (K := ‹Int × Bool›) ?kN ?k1 ?k2 ?ku ?_; (case kN => k_asm); (case k1 => k_mem); (case k2 => k_mem); (case ku => ktr_units)) | (refine' rows_ne9 (by assumption) ?kN ?m1 ?m2 ?s1 ?S1 ?hr ?ku ?_; (case kN => k_asm); (case m1 => k_mem); (case S1 => assumption); (case m2 => k_mem); (case s1 => kt_eqs); (case hr => assumption); (case ku => ktr_units)))) | fail "row")
  k_with "m compareOp In ref ref" => (first | (k_here; k_dflt (refine' key_seen (K := ‹Int × Bool›) ?kN ?k1 ?k2 ?s1 ?S1 ?ku ?_; (case kN => k_asm); (case k1 => k_mem); (case k2 => k_mem); (case S1 => assumption); (case s1 => kt_eqs); (case ku => ktr_units)); intro c' hc') | fail "row")
  k_with "m compareOp NotIn str ref" => (first | (k_here; k_dflt (refine' names_notin ?N ?q ?d ?lo ?hb ?_; (case N => k_asm); (case q => k_mem); (case d => assumption); (case lo => assumption); (case hb => exact hin (hc' (by first | assumption | exact rfl))))) | fail "row")
  k_with "m getMethod ref" => (first | (k_here; (with_reducible show wpAny _ _ (getMethod (Value.ref _) (Str.ofString "get") _) _ _ _); k_dflt (refine' kdg_method (knd := PySem.strKind _ _) ?N ?q ?d ?_; (case d => assumption); (case N => k_asm); (case q => k_mem))) | fail "row")
  k_with "m call builtin:dict.get" => (first | (k_here; (try dsimp only [List.cons_append, List.nil_append]); (with_reducible show wpAny _ _ (call (Value.builtin "dict.get") [Value.ref _, Value.str _ _, _]) _ _ _); k_dflt (refine' names_get ?N ?q ?d ?lo ?hv ?_; (case N => k_asm); (case q => k_mem); (case d => assumption); (case lo => assumption); (case hv => assumption))) | fail "row")
  k_with "m execs cons" => (first | ((with_reducible show wpAny _ _ (execs (Stmt.Expr (Expr.Call (Expr.Attribute (Expr.Name _ _) _ _) _ _ _) _ :: _ :: _) _) _ _ _); refine Hold.out ?_) | fail "row")
  trivial
set_option maxHeartbeats 4000000 in
theorem law_tail {w : World} {tw tl : Nat → Nat} {ov ol : Nat → Value} {c cl r d lim ld sv fr dP sc sn : Addr} {ul zf zc : Nat} {cells : List Value} {mean : ExcName → Option Value} {mg mb : Str → Option Value} {h₀ h : Heap} {L I : Addr} {m : Str → Option Value} {s : Shared} {Q : Flow → Shared → Prop} {E : Value → Shared → Prop} {i tk : Nat} {oI : Obj}
    {K : Int × Bool} {x d' rl e nm kk : Addr} {o oc oP : Obj} {vs : List Value} {cs9 : List Str} {ta tb tc td tg tr z ze tkk us zsc zsn zsv u tw9 : Nat} {gr reg way st kept0 k : Int} {kvs : List (Str × Value)} {others : List PK} {X : Led} {xs : List (List Str × Addr × Value)} {mv lv now : Value} {scs sns svs : List Value} {Ks : List (Int × Bool)} {past : List Trip}
    {k9 : Addr} {t99 : Nat} {QQ : Flow → Shared → Prop} (hQQ : QQ = GrowPost h₀ L I oI (LawInv w tw tl ov ol c cl r d lim ld sv fr dP sc sn ul zf zc cells (i + 1)) { s with heap := h, toks := tk } Q) (loP : (dP == sysModules) = false) (KX : (KF w.params).In h₀) (T : TopE mean mg mb h₀) (B : Below callerA h₀ [] h₀) (hi : i < 9) (hcI : oI.cls = .type "range_iterator")
    (hkey : KeyOf K.1 cs9) (hS : Signs K.2 X cs9 vs) (he : (e, tupObj [.str (Str.ofString "end") ze]) ∈ X) (hD : o.IsDictOf (PySem.strKind pE w) kvs) (hkv : kvs = [] ∨ ∃ kt, kvs = [(Str.ofString "k", .ref kt)]) (hk9 : (valueAt kvs (Str.ofString "k")).getD (.ref kk) = .ref k9) (hk9m : (k9, keyObj K.1 t99 K.2) ∈ X) (hin : K ∈ Ks → (valueAt kvs (Str.ofString "k")).isSome = true) (lo9 : (nm == sysModules) = false) (hkk : (kk, keyObj K.1 tkk K.2) ∈ X)
    (V0 : PatTab w X oP xs ∧ TupsIn X ∧ TabOk xs (selOf w K x d' rl e nm o vs ta tb tc td tg tr z gr reg :: others) lv ∧ KeptIs xs kept0 ∧ kept0 ≤ 3 * ((i + 1 : Nat) : Int) ∧ xs.length ≤ 20 * i + 2 ∧ ∀ p ∈ others, Stands w X p)
    (V1 : Inv1 X (selOf w K x d' rl e nm o vs ta tb tc td tg tr z gr reg :: others) sns Ks i) (V2 : Inv2 X (selOf w K x d' rl e nm o vs ta tb tc td tg tr z gr reg :: others) past (mv, lv, now) svs scs i)
    (hC : oc.IsDictOf (PySem.strKind pE w) (cupOf cl k u)) (hk0 : 0 ≤ k) (hk1 : k ≤ 1 + 4 * ((i + 1 : Nat) : Int))
    (nd : (fixA r d dP lim ld fr ++ ([I, c, cl, sc, sn, sv] ++ adrOf (progsLed (selOf w K x d' rl e nm o vs ta tb tc td tg tr z gr reg :: others)))).Nodup)
    (hM : LawM m c r sc sn now) (hp : m (Str.ofString "program") = some (.ref x)) (hkl : m (Str.ofString "key") = some (.ref kk)) (hw : m (Str.ofString "way") = some (.int way tw9)) (F : Fr h₀ L h m)
    (N : News h₀ L h ((I, oI) :: lawLed w tw tl ov ol c cl r d lim ld sv fr dP sc sn ul zf zc cells oc oP mv st us scs sns svs zsc zsn zsv (selOf w K x d' rl e nm o vs ta tb tc td tg tr z gr reg :: others) X)) :
    wpAny (model pE w) (callerA.deeper (envOf (Str.ofString "law") Sc119 L 1097 (.ref 1096))) (execs lawTail (envOf (Str.ofString "law") Sc119 L 1097 (.ref 1096))) QQ E { s with heap := h, toks := tk } := by
  have nd2 : (fixA r d dP lim ld fr ++ (([I, c, cl, sc, sn, sv] ++ [x, d', rl, nm]) ++ adrOf (progsLed others))).Nodup := by
    rw [List.append_assoc]; exact nd
  have n16 : [r, d, dP, lim, ld, fr, I, c, cl, sc, sn, sv, x, d', rl, nm].Nodup := law_ne16 nd
  obtain ⟨VT, hX, VK, VP, vk0, vx0, VS⟩ := V0
  have hXl : ∀ q ∈ X, q ∈ progsLed (selOf w K x d' rl e nm o vs ta tb tc td tg tr z gr reg :: others) ++ X := fun q hq => List.mem_append_right _ hq
  have sub : ∀ q ∈ X, q ∈ (I, oI) :: lawLed w tw tl ov ol c cl r d lim ld sv fr dP sc sn ul zf zc cells oc oP mv st us scs sns svs zsc zsn zsv (selOf w K x d' rl e nm o vs ta tb tc td tg tr z gr reg :: others) X := fun q hq => .tail _ (.tail _ (.tail _ (.tail _ (.tail _ (.tail _ (.tail _ (.tail _ (.tail _ (.tail _ (.tail _ (.tail _ (hXl q hq))))))))))))
  have N0 := N
  replace N := News.cons9 (News.cons9 (News.cons9 N hkk sub) he (sub_cons sub)) hk9m (sub_cons (sub_cons sub))
  have e9 : m = fun y => if y = Str.ofString "program" then some (.ref x) else if y = Str.ofString "key" then some (.ref kk) else if y = Str.ofString "way" then some (.int way tw9) else lawMap c r sc sn now m y := by
    funext y
    by_cases q1 : y = Str.ofString "program"
    · rw [q1]; exact hp
    by_cases q2 : y = Str.ofString "key"
    · rw [q2]; exact hkl
    by_cases q3 : y = Str.ofString "way"
    · rw [q3]; exact hw
    · rw [if_neg q1, if_neg q2, if_neg q3]; exact congrFun hM.map y
  rw [e9] at F
  let mm : Str → Option Value := fun y => if y = Str.ofString "program" then some (.ref x) else if y = Str.ofString "key" then some (.ref kk) else if y = Str.ofString "way" then some (.int way tw9) else lawMap c r sc sn now m y
  replace F : Fr h₀ L h mm := F
  obtain ⟨Y, hY⟩ : ∃ Y, Y = progsLed others ++ X := ⟨_, rfl⟩
  replace N : News h₀ L h ((k9, keyObj K.1 t99 K.2) :: (e, tupObj [.str (Str.ofString "end") ze]) :: (kk, keyObj K.1 tkk K.2) :: (I, oI) :: (c, oc) :: (cl, listOf cells.toArray zc) :: (sc, listOf scs.toArray zsc) :: (sn, listOf sns.toArray zsn) :: (sv, listOf svs.toArray zsv) :: (r, runObj d) :: (d, runDict w tw ov lim sv fr mv dP st us) :: (dP, oP) :: (lim, instObj 1053 ld) :: (ld, limDict w tl ol ul) :: (fr, listOf #[] zf) :: (x, progObj d') :: (d', progDict w ta tb tc td rl gr tg reg tr nm) :: (rl, listOf (vs ++ [Value.ref e]).toArray z) :: (nm, o) :: Y) := hY ▸ N
  have hXY : ∀ q ∈ X, q ∈ Y := fun q hq => hY ▸ List.mem_append_right _ hq
  have SY := hS.mono hXY
  have KY := V1.1.mono hXY
  refine law_fold ?_
  intro e9 A9
  k_steps
  all_goals (rename News _ _ _ _ => N9)
  all_goals (rename Fr _ _ _ _ => F9)
  all_goals subst hY
  all_goals exact Hold.go (law_tail2 hQQ loP KX T B hi hcI hkey hS he hD hkv lo9 hkk ⟨VT, hX, VK, VP, vk0, vx0, VS⟩ V1 V2 hC hk0 hk1 nd ⟨rfl, rfl, rfl, rfl, rfl⟩ rfl rfl rfl F9 fun q hq => N9 q (.tail _ (.tail _ (.tail _ hq))))
-- part T15
@[reducible] noncomputable def lawRest : List Stmt := (⟨_, by conv => lhs; whnf⟩ : {b : List Stmt // List.drop 3 lawBody = b}).1
theorem asked_four {w : World} {tw tl : Nat → Nat} {ov ol : Nat → Value} {r d lim ld sv fr dP : Addr} {mv : Value} {st : Int} {u ul zf tx tf : Nat} {oP : Obj} {fl px : Str} {b : Bool} {X news : Led} {xs : List (List Str × Addr × Value)}
    {mean : ExcName → Option Value} {mg mb : Str → Option Value} {dp un : Nat} {gd : Option (List Code)} {cn : Str} {cs : Scope} {a : Addr} {ccd : Value} {A₀ : Around} {base h₀ : Heap} {L : Addr} {m : Str → Option Value} {s : Shared} {Q E : Value → Shared → Prop}
    (T0 : PatTab w X oP xs) (lo : (dP == sysModules) = false) (hf : ownOf fl b) (hp : px = Str.ofString "(a") (hv : pv xs [Str.ofString "(a", kept b] = none) (hne : RunNe r d lim ld fr dP X) (B : Below A₀ base [] h₀) (F : Fr h₀ L s.heap m) (KX : (KF w.params).In h₀) (N : News h₀ L s.heap news) (hs : ∀ q ∈ runLed w tw tl ov ol r d lim ld sv fr dP mv st u ul zf oP X, q ∈ news) (T : TopE mean mg mb h₀) (XB : (KF w.params).In base) (TB : TopE mean mg mb base) (hk : cs.kind = .function) (hd : dp + 70 < recursionLimit) (hu : un + 540 < cLine)
    (ret : ∀ h' tk', Fr h₀ L h' m → News h₀ L h' news → Q .none { s with heap := h', toks := tk' }) : wpAny (model pE w) (ktrTop dp un gd cn cs L a ccd [] []) (call (.ref 1090) [.ref r, .str px tx, .str fl tf]) Q E s := by
  subst hp
  refine asked_bad T0 lo hf hv hne mean mg mb dp un gd cn cs a ccd A₀ base h₀ L m s Q E B F KX (fun q hq => N q (hs q hq)) T XB TB hk hd hu fun v h' tk' hv' F' N' K' => ?_
  subst hv'
  refine ret h' tk' F' fun q hq => ?_
  by_cases hin : q.1 ∈ (runLed w tw tl ov ol r d lim ld sv fr dP mv st u ul zf oP X).map (·.1)
  · obtain ⟨y, hy, e⟩ := List.mem_map.mp hin
    have e1 := (N y (hs y hy)).1
    rw [e, (N q hq).1] at e1
    injection e1 with e1
    have e2 := (N' y hy).1
    rw [e, ← e1] at e2
    exact ⟨e2, (N q hq).2⟩
  · exact ⟨K' q.1 q.2 (N q hq).1 hin (N q hq).2.1, (N q hq).2⟩
theorem mem_ins {P R X : Led} {a q : Addr × Obj} (h : q ∈ P ++ (R ++ (a :: X))) : q = a ∨ q ∈ P ++ (R ++ X) := by
  simp only [List.mem_append, List.mem_cons] at h ⊢
  rcases h with h | h | h | h <;> simp [h]
theorem mem_mv {P R l Y X : Led} {q : Addr × Obj} (h : q ∈ P ++ (R ++ ((l ++ Y) ++ X))) : q ∈ P ++ (l ++ (R ++ (Y ++ X))) := by
  simp only [List.mem_append] at h ⊢
  rcases h with h | h | (h | h) | h <;> simp [h]
theorem law_more {w : World} {tw tl : Nat → Nat} {ov ol : Nat → Value} {c cl r d lim ld sv fr dP sc sn I : Addr} {ul zf zc us zsc zsn zsv : Nat} {cells scs sns svs : List Value} {oc oP oI : Obj} {mv : Value} {st : Int} {ps : List PK} {X : Led} {a q : Addr × Obj}
    (h : q ∈ (I, oI) :: lawLed w tw tl ov ol c cl r d lim ld sv fr dP sc sn ul zf zc cells oc oP mv st us scs sns svs zsc zsn zsv ps (a :: X)) : q = a ∨ q ∈ (I, oI) :: lawLed w tw tl ov ol c cl r d lim ld sv fr dP sc sn ul zf zc cells oc oP mv st us scs sns svs zsc zsn zsv ps X := by
  exact mem_ins (P := [(I, oI), (c, oc), (cl, listOf cells.toArray zc), (sc, listOf scs.toArray zsc), (sn, listOf sns.toArray zsn), (sv, listOf svs.toArray zsv), (r, runObj d), (d, runDict w tw ov lim sv fr mv dP st us), (dP, oP), (lim, instObj 1053 ld), (ld, limDict w tl ol ul), (fr, listOf #[] zf)]) (R := progsLed ps) h
theorem law_front {w : World} {tw tl : Nat → Nat} {ov ol : Nat → Value} {c cl r d lim ld sv fr dP sc sn I x : Addr} {ul zf zc us zsc zsn zsv : Nat} {cells scs sns svs : List Value} {oc oP oI : Obj} {mv : Value} {st : Int} {K : Int × Bool} {led : Led} {others : List PK} {X : Led} {q : Addr × Obj}
    (h : q ∈ (I, oI) :: lawLed w tw tl ov ol c cl r d lim ld sv fr dP sc sn ul zf zc cells oc oP mv st us scs sns svs zsc zsn zsv (((K, x, led) : PK) :: others) X) :
    q ∈ [(I, oI), (c, oc), (cl, listOf cells.toArray zc), (sc, listOf scs.toArray zsc), (sn, listOf sns.toArray zsn), (sv, listOf svs.toArray zsv)] ++ (led ++ runLed w tw tl ov ol r d lim ld sv fr dP mv st us ul zf oP (progsLed others ++ X)) := by
  exact mem_mv (P := [(I, oI), (c, oc), (cl, listOf cells.toArray zc), (sc, listOf scs.toArray zsc), (sn, listOf sns.toArray zsn), (sv, listOf svs.toArray zsv)]) (R := [(r, runObj d), (d, runDict w tw ov lim sv fr mv dP st us), (dP, oP), (lim, instObj 1053 ld), (ld, limDict w tl ol ul), (fr, listOf #[] zf)]) (l := led) (Y := progsLed others) h
theorem patAt_four {j : Int} {px : Str} (h : PatAt j px) : (j = 4 ∧ px = Str.ofString "(a") ∨ (¬ j = 4 ∧ j < 4) := by
  rcases h with ⟨rfl, _⟩ | ⟨rfl, _⟩ | ⟨rfl, _⟩ | ⟨rfl, _⟩ | ⟨rfl, h⟩
  · right; omega
  · right; omega
  · right; omega
  · right; omega
  · exact .inl ⟨rfl, h⟩
theorem no_four {w : World} {X : Led} {ps : List PK} {xs : List (List Str × Addr × Value)} {lv : Value} {b : Bool} (h : TabOk xs ps lv) (hs : ∀ p ∈ ps, Stands w X p) : pv xs [Str.ofString "(a", kept b] = none := by
  rcases h.2.1 4 b (Str.ofString "(a") (.inr (.inr (.inr (.inr ⟨rfl, rfl⟩)))) with h | ⟨p, hp, hk, _⟩
  · exact h
  · obtain ⟨kvs, hp', _⟩ := hs p hp
    obtain ⟨cs, hc⟩ := hp'.key
    rw [hk] at hc
    rcases hc with ⟨h, _⟩ | ⟨h, _⟩ | ⟨h, _⟩ | ⟨h, _⟩ <;> simp at h
theorem rest_tail {w : World} {tw tl : Nat → Nat} {ov ol : Nat → Value} {c cl r d lim ld sv fr dP sc sn : Addr} {ul zf zc : Nat} {cells : List Value} {mean : ExcName → Option Value} {mg mb : Str → Option Value} {h₀ h : Heap} {L I : Addr} {m : Str → Option Value} {s : Shared} {Q : Flow → Shared → Prop} {E : Value → Shared → Prop} {i tk : Nat} {oI : Obj}
    {K : Int × Bool} {x kk : Addr} {led l : Led} {oc oP : Obj} {tkk us zsc zsn zsv u tw9 : Nat} {way st kept0 kept' k : Int} {kvs : List (Str × Value)} {ps others : List PK} {X X' X2 : Led} {xs xs' : List (List Str × Addr × Value)} {mv lv now : Value} {scs sns svs : List Value} {Ks : List (Int × Bool)} {past : List Trip} {oP0 : Obj}
    {QQ : Flow → Shared → Prop} (hQQ : QQ = GrowPost h₀ L I oI (LawInv w tw tl ov ol c cl r d lim ld sv fr dP sc sn ul zf zc cells (i + 1)) { s with heap := h, toks := tk } Q) (loP : (dP == sysModules) = false) (KX : (KF w.params).In h₀) (T : TopE mean mg mb h₀) (B : Below callerA h₀ [] h₀) (hi : i < 9) (hcI : oI.cls = .type "range_iterator")
    (hP : ProgAt w X' (K, x, led) kvs) (hnew : (((K, x, led) : PK) ∈ ps ∧ Named X' K kvs) ∨ (kvs = [] ∧ ∀ p ∈ ps, p.1 ≠ K)) (sX : ∀ q ∈ X, q ∈ X') (s2 : ∀ q ∈ X', q ∈ X2) (hX2 : TupsIn X2) (hkk : (kk, keyObj K.1 tkk K.2) ∈ X2) (ho1 : ∀ p ∈ others, p ∈ ps) (ho2 : ∀ p ∈ ps, p ∈ ((K, x, led) : PK) :: others)
    (TP : PatTab w X' oP xs') (VK : TabOk xs' (((K, x, led) : PK) :: others) lv) (VP : KeptIs xs' kept') (vk : kept' ≤ kept0 + 3) (vx : xs'.length ≤ xs.length + 2) (nd : (fixA r d dP lim ld fr ++ ([I, c, cl, sc, sn, sv] ++ adrOf (progsLed (((K, x, led) : PK) :: others)))).Nodup)
    (V0 : Inv0 w X ps xs oP0 lv kept0 i) (V1 : Inv1 X ps sns Ks i) (V2 : Inv2 X ps past (mv, lv, now) svs scs i) (hC : oc.IsDictOf (PySem.strKind pE w) (cupOf cl k u)) (hk0 : 0 ≤ k) (hk1 : k ≤ 1 + 4 * ((i + 1 : Nat) : Int))
    (hM : LawM m c r sc sn now) (hp : m (Str.ofString "program") = some (.ref x)) (hkl : m (Str.ofString "key") = some (.ref kk)) (hw : m (Str.ofString "way") = some (.int way tw9)) (F : Fr h₀ L h m) (N : News h₀ L h l)
    (sub : ∀ q ∈ (I, oI) :: lawLed w tw tl ov ol c cl r d lim ld sv fr dP sc sn ul zf zc cells oc oP mv st us scs sns svs zsc zsn zsv (((K, x, led) : PK) :: others) X2, q ∈ l) :
    wpAny (model pE w) (callerA.deeper (envOf (Str.ofString "law") Sc119 L 1097 (.ref 1096))) (execs lawTail (envOf (Str.ofString "law") Sc119 L 1097 (.ref 1096))) QQ E { s with heap := h, toks := tk } := by
  have s12 : ∀ q ∈ X, q ∈ X2 := fun q hq => s2 q (sX q hq)
  have V1' := V1.mono (i' := i) (fun p hp => ⟨p, ho2 p hp, rfl⟩) s12 (Nat.le_refl _)
  have V2' := V2.mono (i' := i) (fun p hp => ⟨p, ho2 p hp, rfl, rfl⟩) s12 (Nat.le_refl _)
  obtain ⟨a1, a2, a3, a4, a5, a6, a7⟩ := V0
  have N' := News.sub9 N sub
  obtain ⟨d', rl, e, nm, o, vs, cs9, ta, tb, tc, td, gr, tg, reg, tr, z, ze, hled, he, hkey, hS, hD, lo9⟩ := hP
  dsimp only at hled hkey hS
  subst hled
  have hK : (kvs = [] ∨ ∃ kt, kvs = [(Str.ofString "k", .ref kt)]) ∧ (∃ k9 t99, (valueAt kvs (Str.ofString "k")).getD (.ref kk) = .ref k9 ∧ (k9, keyObj K.1 t99 K.2) ∈ X2) ∧ (K ∈ Ks → (valueAt kvs (Str.ofString "k")).isSome = true) := by
    rcases hnew with ⟨_, kt, t, rfl, hm⟩ | ⟨rfl, hn⟩
    · exact ⟨.inr ⟨kt, rfl⟩, ⟨kt, t, rfl, s2 _ hm⟩, fun _ => rfl⟩
    · refine ⟨.inl rfl, ⟨kk, tkk, rfl, hkk⟩, fun hk => ?_⟩
      obtain ⟨p, hp, e9⟩ := V1.2.1 K hk
      exact absurd e9 (hn p hp)
  obtain ⟨hkv, ⟨k9, t99, hk9, hk9m⟩, hin⟩ := hK
  exact law_tail hQQ loP KX T B hi hcI hkey (hS.mono s2) (s2 _ he) hD hkv hk9 hk9m hin lo9 hkk ⟨TP.mono s2, hX2, VK, VP, by omega, by omega, fun p hp => (a7 p (ho1 p hp)).mono s12⟩ V1' V2' hC hk0 hk1 nd hM hp hkl hw F N'
theorem rowsT15_1 : True := by
  k_with "m call ref" => (first | ((with_reducible show wpAny _ _ (call (Value.ref 1090) _) _ _ _); refine Hold.out ?_) | fail "row")
  k_with "m execs cons" => (first | ((with_reducible show wpAny _ _ (execs (Stmt.If (Expr.BoolOp BoolOp.Or _ _) _ _ _ :: _ :: _) _) _ _ _); refine Hold.out ?_) | fail "row")
  k_with "m execs cons" => (first | ((with_reducible show wpAny _ _ (execs (Stmt.Assign [Expr.Tuple _ _ _] (Expr.Tuple _ _ _) _ :: _) _) _ _ _); k_here; (with_reducible refine wpAny_execs_cons ?_); (try dsimp only)) | fail "row")
  k_with "m isTrue BoolOp" => (first | ((with_reducible rename CutOn => hcut); refine Hold.out ?_) | fail "row")
  trivial
set_option maxHeartbeats 4000000 in
theorem law_rest {w : World} {tw tl : Nat → Nat} {ov ol : Nat → Value} {c cl r d lim ld sv fr dP sc sn : Addr} {ul zf zc : Nat} {cells : List Value} {ns9 : List Int} {mean : ExcName → Option Value} {mg mb : Str → Option Value} {h₀ h : Heap} {L I : Addr} {m : Str → Option Value} {s : Shared} {Q : Flow → Shared → Prop} {E : Value → Shared → Prop} {i tk : Nat} {oI : Obj}
    {k way st kept0 : Int} {u us zsc zsn zsv tw9 : Nat} {oc oP : Obj} {mv lv now : Value} {scs sns svs : List Value} {xs : List (List Str × Addr × Value)} {ps : List PK} {Ks : List (Int × Bool)} {past : List Trip} {X : Led}
    {QQ : Flow → Shared → Prop} (hQQ : QQ = GrowPost h₀ L I oI (LawInv w tw tl ov ol c cl r d lim ld sv fr dP sc sn ul zf zc cells (i + 1)) { s with heap := h, toks := tk } Q) (hI : IntsAre cells ns9) (hns : ns9.length ≤ 40) (loC : (c == sysModules) = false) (loP : (dP == sysModules) = false) (KX : (KF w.params).In h₀) (T : TopE mean mg mb h₀) (B : Below callerA h₀ [] h₀) (hi : i < 9) (hcI : oI.cls = .type "range_iterator")
    (hC : oc.IsDictOf (PySem.strKind pE w) (cupOf cl k u)) (hk0 : 0 ≤ k) (hk1 : k ≤ 2 + 4 * (i : Int)) (V0 : Inv0 w X ps xs oP lv kept0 i) (V1 : Inv1 X ps sns Ks i) (V2 : Inv2 X ps past (mv, lv, now) svs scs i) (nd : (fixA r d dP lim ld fr ++ ([I, c, cl, sc, sn, sv] ++ adrOf (progsLed ps))).Nodup)
    (hM : LawM m c r sc sn now) (hw : m (Str.ofString "way") = some (.int way tw9)) (F : Fr h₀ L h m) (N : News h₀ L h ((I, oI) :: lawLed w tw tl ov ol c cl r d lim ld sv fr dP sc sn ul zf zc cells oc oP mv st us scs sns svs zsc zsn zsv ps X)) :
    wpAny (model pE w) (callerA.deeper (envOf (Str.ofString "law") Sc119 L 1097 (.ref 1096))) (execs lawRest (envOf (Str.ofString "law") Sc119 L 1097 (.ref 1096))) QQ E { s with heap := h, toks := tk } := by
  have n12 := law_ne nd
  have sub : ∀ q ∈ X, q ∈ (I, oI) :: lawLed w tw tl ov ol c cl r d lim ld sv fr dP sc sn ul zf zc cells oc oP mv st us scs sns svs zsc zsn zsv ps X := fun q hq => .tail _ (.tail _ (.tail _ (.tail _ (.tail _ (.tail _ (.tail _ (.tail _ (.tail _ (.tail _ (.tail _ (.tail _ (List.mem_append_right _ hq))))))))))))
  have Yc : AllNe c (progsLed ps ++ X) := allNe_progs nd (.inr (by simp)) N V0.2.1 sub (.tail _ (.head _)) (by rw [dict_cls hC]; decide)
  have Ycl : AllNe cl (progsLed ps ++ X) := allNe_progs nd (.inr (by simp)) N V0.2.1 sub (.tail _ (.tail _ (.head _))) (by simp)
  have Ysv : AllNe sv (progsLed ps ++ X) := allNe_progs nd (.inr (by simp)) N V0.2.1 sub (.tail _ (.tail _ (.tail _ (.tail _ (.tail _ (.head _)))))) (by simp)
  have Yd : AllNe d (progsLed ps ++ X) := allNe_progs nd (.inl (by simp)) N V0.2.1 sub (.tail _ (.tail _ (.tail _ (.tail _ (.tail _ (.tail _ (.tail _ (.head _)))))))) (by simp)
  have YdP : AllNe dP (progsLed ps ++ X) := allNe_progs nd (.inl (by simp)) N V0.2.1 sub (.tail _ (.tail _ (.tail _ (.tail _ (.tail _ (.tail _ (.tail _ (.tail _ (.head _))))))))) (by rw [V0.1.1.1]; decide)
  have Ysc : AllNe sc (progsLed ps ++ X) := allNe_progs nd (.inr (by simp)) N V0.2.1 sub (.tail _ (.tail _ (.tail _ (.head _)))) (by simp)
  have e9 : m = fun y => if y = Str.ofString "way" then some (.int way tw9) else lawMap c r sc sn now m y := by
    funext y
    by_cases q3 : y = Str.ofString "way"
    · rw [q3]; exact hw
    · rw [if_neg q3]; exact congrFun hM.map y
  rw [e9] at F
  let mm : Str → Option Value := fun y => if y = Str.ofString "way" then some (.int way tw9) else lawMap c r sc sn now m y
  replace F : Fr h₀ L h mm := F
  obtain ⟨Y, hY⟩ : ∃ Y, Y = progsLed ps ++ X := ⟨_, rfl⟩
  simp only [lawLed, runLed] at N
  rw [← hY] at N Yc Ycl Ysc Ysv Yd YdP
  obtain ⟨R, hR⟩ : ∃ R, R = (I, oI) :: (sc, listOf scs.toArray zsc) :: (sn, listOf sns.toArray zsn) :: (sv, listOf svs.toArray zsv) :: (r, runObj d) :: (d, runDict w tw ov lim sv fr mv dP st us) :: (dP, oP) :: (lim, instObj 1053 ld) :: (ld, limDict w tl ol ul) :: (fr, listOf #[] zf) :: Y := ⟨_, rfl⟩
  replace N : News h₀ L h ((c, oc) :: (cl, listOf cells.toArray zc) :: R) := by
    subst hR
    refine News.sub9 N ?_
    repeat' (first | k_mem | refine' List.forall_mem_cons.mpr ⟨?_, ?_⟩ | exact sub_refl | refine' sub_cons ?_)
  have Rc : AllNe c R := by rw [hR]; repeat' (first | exact Yc | refine' allNe_cons ?_ ?_ | k_ne)
  have Rcl : AllNe cl R := by rw [hR]; repeat' (first | exact Ycl | refine' allNe_cons ?_ ?_ | k_ne)
  refine law_fold ?_
  intro e9 A9
  k_steps
  subst hR
  rename News _ _ _ _ => N9
  rename PatAt _ _ => hpx
  rename ownOf _ _ => hfl
  rename Obj.IsDictOf _ _ _ => hC9
  refine Hold.go ?_
  have hXY : ∀ q ∈ X, q ∈ Y := fun q hq => hY ▸ List.mem_append_right _ hq
  obtain ⟨a1, a2, a3, a4, a5, a6, a7⟩ := id V0
  rcases patAt_four hpx with ⟨rfl, hp4⟩ | ⟨hj4, hj4l⟩
  · k_dflt (refine' asked_four (d := d) (lim := lim) (ld := ld) (sv := sv) (fr := fr) (dP := dP) (X := X) a1 loP hfl hp4 (no_four a3 a7) ?hne ?kB ?kF ?kX N9 ?hs ?kT KX T ?kK ?kD ?kU ?_)
    case hne => exact runNe_of (w := w) (rest := [I, c, cl, sc, sn, sv] ++ adrOf (progsLed ps)) nd N9 a2 (by intro q hq; simp [hXY q hq]) (by k_mem) (by simp) (by k_mem) (by rw [a1.1.1]; decide)
    case kB => k_asm
    case kF => k_asm
    case kX => k_asm
    case hs =>
      simp only [runLed]
      repeat' (first | k_mem | refine' List.forall_mem_cons.mpr ⟨?_, ?_⟩)
      intro q hq
      have := hXY q hq
      simp [this]
    case kT => k_asm
    case kK => exact rfl
    case kD => ktr_room
    case kU => ktr_units
    intro h' tk' F' N'
    k_steps
    rename News _ _ _ _ => N8
    subst hY
    subst hQQ
    refine turn_end (zsc := zsc) (zsn := zsn) (zsv := zsv) (us := us) (st := st) (by assumption) N8 ?_ hcI ⟨rfl, rfl, rfl, rfl, rfl⟩ hC9 (by omega) (by omega) (V0.mono (fun _ h => h) a2 (Nat.le_succ i)) (V1.mono (fun p hp => ⟨p, hp, rfl⟩) (fun _ h => h) (Nat.le_succ i)) (V2.mono same_pk (fun _ h => h) (Nat.le_succ i)) nd
    simp only [lawLed, runLed]
    repeat' (first | k_mem | refine' List.forall_mem_cons.mpr ⟨?_, ?_⟩ | exact sub_refl | refine' sub_cons ?_)
  · have N7 : News h₀ L h' ([(I, oI), (c, o'), (cl, listOf cells.toArray zc), (sc, listOf scs.toArray zsc), (sn, listOf sns.toArray zsn), (sv, listOf svs.toArray zsv)] ++ runLed w tw tl ov ol r d lim ld sv fr dP mv st us ul zf oP (progsLed ps ++ X)) := by
      rw [← hY]
      refine News.sub9 N9 ?_
      show ∀ q ∈ (I, oI) :: (c, o') :: (cl, listOf cells.toArray zc) :: (sc, listOf scs.toArray zsc) :: (sn, listOf sns.toArray zsn) :: (sv, listOf svs.toArray zsv) :: (r, runObj d) :: (d, runDict w tw ov lim sv fr mv dP st us) :: (dP, oP) :: (lim, instObj 1053 ld) :: (ld, limDict w tl ol ul) :: (fr, listOf #[] zf) :: Y, _
      repeat' (first | k_mem | refine' List.forall_mem_cons.mpr ⟨?_, ?_⟩ | exact sub_refl | refine' sub_cons ?_)
    have hlast := (V2.1 (mv, lv, now) (by simp)).2
    have hfront : ∀ q ∈ [(I, oI), (c, o'), (cl, listOf cells.toArray zc), (sc, listOf scs.toArray zsc), (sn, listOf sns.toArray zsn), (sv, listOf svs.toArray zsv)], q.2.cls ≠ .type "tuple" := List.forall_mem_cons.mpr ⟨by rw [hcI]; decide, List.forall_mem_cons.mpr ⟨by rw [dict_cls hC9]; decide, List.forall_mem_cons.mpr ⟨by simp, List.forall_mem_cons.mpr ⟨by simp, List.forall_mem_cons.mpr ⟨by simp, List.forall_mem_cons.mpr ⟨by simp, List.forall_mem_nil _⟩⟩⟩⟩⟩⟩
    k_dflt (refine' asked_any a1 loP a2 hpx hj4l hfl a3 hlast a4 (by omega) (by omega) a7 hfront nd ?kB ?kF ?kX N7 ?kT ?kK ?kD ?kU ?_)
    case kB => k_asm
    case kF => k_asm
    case kX => k_asm
    case kT => k_asm
    case kK => exact rfl
    case kD => ktr_room
    case kU => ktr_units
    rintro x h' tk' ⟨⟨K, x0, led⟩, others, X', oP', xs', kept', st', u', kvs, rfl, sX, hX', hP', ho1, ho2, TP', VK', VP', vk', vx', nd', hcond, hnew, F', N'⟩
    dsimp only at hcond hnew nd' N'
    obtain ⟨Z, hZ⟩ : ∃ Z, Z = [(I, oI), (c, o'), (cl, listOf cells.toArray zc), (sc, listOf scs.toArray zsc), (sn, listOf sns.toArray zsn), (sv, listOf svs.toArray zsv)] ++ (led ++ runLed w tw tl ov ol r d lim ld sv fr dP mv st' u' ul zf oP' (progsLed others ++ X')) := ⟨_, rfl⟩
    rw [← hZ] at N'
    have nd9 : (fixA r d dP lim ld fr ++ ([I, c, cl, sc, sn, sv] ++ adrOf (progsLed (((K, x, led) : PK) :: others)))).Nodup := nd'
    clear nd'
    have hfr : ∀ q, q ∈ (I, oI) :: lawLed w tw tl ov ol c cl r d lim ld sv fr dP sc sn ul zf zc cells o' oP' mv st' u' scs sns svs zsc zsn zsv (((K, x, led) : PK) :: others) X' → q ∈ Z := fun q hq => hZ ▸ law_front hq
    have hcut : CutOn := trivial
    k_steps
    all_goals (try clear hcut)
    try any_goals (exfalso; contradiction)
    refine Hold.go ?_
    rcases hcond with ⟨hj3, kt, t, hnow, hkt⟩ | ⟨hj3, hK⟩
    · subst hnow
      k_steps
      all_goals first
        | (exfalso; contradiction)
        | ((rename News _ _ _ _ => N8); (rename Fr _ _ _ _ => F8); exact Hold.go (rest_tail hQQ loP KX T B hi hcI hP' hnew sX (fun _ h => h) hX' (sX _ hkt) ho1 ho2 TP' VK' VP' vk' vx' nd9 V0 V1 V2 hC9 (by omega) (by omega) ⟨rfl, rfl, rfl, rfl, rfl⟩ rfl rfl rfl F8 N8 fun q hq => .tail _ (hfr q hq)))
    · subst hK
      rcases hlast with ⟨hnow, _⟩ | ⟨p, hp, kt, t, hnow, _, _⟩
      · have hnow' : now = .none := hnow
        subst hnow'
        k_steps
        all_goals first
          | (exfalso; contradiction)
          | ((rename News _ _ _ _ => N8); (rename Fr _ _ _ _ => F8); exact Hold.go (rest_tail hQQ loP KX T B hi hcI hP' hnew sX (fun q hq => .tail _ hq) (List.forall_mem_cons.mpr ⟨rfl, hX'⟩) (.head _) ho1 ho2 TP' VK' VP' vk' vx' nd9 V0 V1 V2 hC9 (by omega) (by omega) ⟨rfl, rfl, rfl, rfl, rfl⟩ rfl rfl rfl F8 N8 fun q hq => (law_more hq).elim (fun h => h ▸ .head _) fun h => .tail _ (hfr q h)))
      · have hnow' : now = .ref kt := hnow
        subst hnow'
        have hj3' : ¬ _ = _ := fun h => hj3 ⟨h, fun h => nomatch h⟩
        k_steps
        all_goals first
          | (exfalso; contradiction)
          | ((rename News _ _ _ _ => N8); (rename Fr _ _ _ _ => F8); exact Hold.go (rest_tail hQQ loP KX T B hi hcI hP' hnew sX (fun q hq => .tail _ hq) (List.forall_mem_cons.mpr ⟨rfl, hX'⟩) (.head _) ho1 ho2 TP' VK' VP' vk' vx' nd9 V0 V1 V2 hC9 (by omega) (by omega) ⟨rfl, rfl, rfl, rfl, rfl⟩ rfl rfl rfl F8 N8 fun q hq => (law_more hq).elim (fun h => h ▸ .head _) fun h => .tail _ (hfr q h)))
-- part T16
theorem rowsT16_1 : True := by
  k_with "m execs cons" => (first | ((with_reducible show wpAny _ _ (execs (Stmt.Expr (Expr.Call (Expr.Attribute (Expr.Name _ _) _ _) _ _ _) _ :: _ :: _) _) _ _ _); k_here; (with_reducible refine wpAny_execs_cons ?_); (try dsimp only)) | fail "row")
  k_with "m execs cons" => (first | ((with_reducible show wpAny _ _ (execs (Stmt.Assign [Expr.Tuple _ _ _] (Expr.Tuple _ _ _) _ :: _) _) _ _ _); refine Hold.out ?_) | fail "row")
  k_with "m exec If" => (first | ((with_reducible rename CutOn => hcut); refine Hold.out ?_) | fail "row")
  trivial
set_option maxHeartbeats 4000000 in
theorem law_turn {w : World} {tw tl : Nat → Nat} {ov ol : Nat → Value} {c cl r d lim ld sv fr dP sc sn : Addr} {ul zf zc : Nat} {cells : List Value} {ns9 : List Int} {mean : ExcName → Option Value} {mg mb : Str → Option Value} {h₀ h : Heap} {L I : Addr} {m₁ : Str → Option Value} {s : Shared} {Q : Flow → Shared → Prop} {E : Value → Shared → Prop} {i tk : Nat} {v : Value} {news₁ : Led} {oI : Obj}
    {QQ : Flow → Shared → Prop} (hQQ : QQ = GrowPost h₀ L I oI (LawInv w tw tl ov ol c cl r d lim ld sv fr dP sc sn ul zf zc cells (i + 1)) { s with heap := h, toks := tk } Q) (hI : IntsAre cells ns9) (hns : ns9.length ≤ 40) (loC : (c == sysModules) = false) (loP : (dP == sysModules) = false) (KX : (KF w.params).In h₀) (T : TopE mean mg mb h₀) (B : Below callerA h₀ [] h₀) (hi : i < 9)
    (J : LawInv w tw tl ov ol c cl r d lim ld sv fr dP sc sn ul zf zc cells i m₁ news₁) (hcI : oI.cls = .type "range_iterator") (hoff : ∀ p ∈ news₁, p.1 ≠ I) (F : Fr h₀ L h (fun y => if y = Str.ofString "turn" then some v else m₁ y)) (N : News h₀ L h ((I, oI) :: news₁)) :
    wpAny (model pE w) (callerA.deeper (envOf (Str.ofString "law") Sc119 L 1097 (.ref 1096))) (execs lawBody (envOf (Str.ofString "law") Sc119 L 1097 (.ref 1096))) QQ E { s with heap := h, toks := tk } := by
  obtain ⟨k, u, oc, oP, mv, lv, now, st, us, scs, sns, svs, zsc, zsn, zsv, xs, ps, Ks, past, X, kept0, rfl, hM, hC, hk0, hk1, V0, V1, V2, nd0⟩ := J
  have nd : (fixA r d dP lim ld fr ++ ([I, c, cl, sc, sn, sv] ++ adrOf (progsLed ps))).Nodup := by
    refine (List.perm_middle (l₁ := fixA r d dP lim ld fr) (l₂ := [c, cl, sc, sn, sv] ++ adrOf (progsLed ps)) (a := I)).nodup_iff.mpr (List.nodup_cons.mpr ⟨fun hm => ?_, nd0⟩)
    simp only [fixA, adrOf, List.mem_append, List.mem_cons, List.not_mem_nil, or_false, List.mem_map] at hm
    rcases hm with (h | h | h | h | h | h) | (h | h | h | h | h) | ⟨p, hp, e⟩
    · exact hoff (r, runObj d) (.tail _ (.tail _ (.tail _ (.tail _ (.tail _ (.head _)))))) h.symm
    · exact hoff (d, runDict w tw ov lim sv fr mv dP st us) (.tail _ (.tail _ (.tail _ (.tail _ (.tail _ (.tail _ (.head _))))))) h.symm
    · exact hoff (dP, oP) (.tail _ (.tail _ (.tail _ (.tail _ (.tail _ (.tail _ (.tail _ (.head _)))))))) h.symm
    · exact hoff (lim, instObj 1053 ld) (.tail _ (.tail _ (.tail _ (.tail _ (.tail _ (.tail _ (.tail _ (.tail _ (.head _))))))))) h.symm
    · exact hoff (ld, limDict w tl ol ul) (.tail _ (.tail _ (.tail _ (.tail _ (.tail _ (.tail _ (.tail _ (.tail _ (.tail _ (.head _)))))))))) h.symm
    · exact hoff (fr, listOf #[] zf) (.tail _ (.tail _ (.tail _ (.tail _ (.tail _ (.tail _ (.tail _ (.tail _ (.tail _ (.tail _ (.head _))))))))))) h.symm
    · exact hoff (c, oc) (.head _) h.symm
    · exact hoff (cl, listOf cells.toArray zc) (.tail _ (.head _)) h.symm
    · exact hoff (sc, listOf scs.toArray zsc) (.tail _ (.tail _ (.head _))) h.symm
    · exact hoff (sn, listOf sns.toArray zsn) (.tail _ (.tail _ (.tail _ (.head _)))) h.symm
    · exact hoff (sv, listOf svs.toArray zsv) (.tail _ (.tail _ (.tail _ (.tail _ (.head _))))) h.symm
    · exact hoff p (.tail _ (.tail _ (.tail _ (.tail _ (.tail _ (.tail _ (.tail _ (.tail _ (.tail _ (.tail _ (.tail _ (List.mem_append_left _ hp)))))))))))) e
  have n12 := law_ne nd
  have sub : ∀ q ∈ X, q ∈ (I, oI) :: lawLed w tw tl ov ol c cl r d lim ld sv fr dP sc sn ul zf zc cells oc oP mv st us scs sns svs zsc zsn zsv ps X := fun q hq => .tail _ (.tail _ (.tail _ (.tail _ (.tail _ (.tail _ (.tail _ (.tail _ (.tail _ (.tail _ (.tail _ (.tail _ (List.mem_append_right _ hq))))))))))))
  have Yc : AllNe c (progsLed ps ++ X) := allNe_progs nd (.inr (by simp)) N V0.2.1 sub (.tail _ (.head _)) (by rw [dict_cls hC]; decide)
  have Ycl : AllNe cl (progsLed ps ++ X) := allNe_progs nd (.inr (by simp)) N V0.2.1 sub (.tail _ (.tail _ (.head _))) (by simp)
  have Ysv : AllNe sv (progsLed ps ++ X) := allNe_progs nd (.inr (by simp)) N V0.2.1 sub (.tail _ (.tail _ (.tail _ (.tail _ (.tail _ (.head _)))))) (by simp)
  have Yd : AllNe d (progsLed ps ++ X) := allNe_progs nd (.inl (by simp)) N V0.2.1 sub (.tail _ (.tail _ (.tail _ (.tail _ (.tail _ (.tail _ (.tail _ (.head _)))))))) (by simp)
  have YdP : AllNe dP (progsLed ps ++ X) := allNe_progs nd (.inl (by simp)) N V0.2.1 sub (.tail _ (.tail _ (.tail _ (.tail _ (.tail _ (.tail _ (.tail _ (.tail _ (.head _))))))))) (by rw [V0.1.1.1]; decide)
  have Ysc : AllNe sc (progsLed ps ++ X) := allNe_progs nd (.inr (by simp)) N V0.2.1 sub (.tail _ (.tail _ (.tail _ (.head _)))) (by simp)
  rw [hM.map] at F
  let mm : Str → Option Value := fun y => if y = Str.ofString "turn" then some v else lawMap c r sc sn now m₁ y
  replace F : Fr h₀ L h mm := F
  obtain ⟨Y, hY⟩ : ∃ Y, Y = progsLed ps ++ X := ⟨_, rfl⟩
  simp only [lawLed, runLed] at N
  rw [← hY] at N Yc Ycl Ysc Ysv Yd YdP
  have S5 := V2.2.2.2.2.1
  have S3 := V2.2.2.1
  have hsv9 : svs.length ≤ 9 := by
    rw [S3.len, List.length_map]
    have := V2.2.2.2.1
    omega
  have hsc9 : scs.length ≤ 9 := by
    have := V2.2.2.2.2.2
    omega
  obtain ⟨R, hR⟩ : ∃ R, R = (I, oI) :: (sc, listOf scs.toArray zsc) :: (sn, listOf sns.toArray zsn) :: (sv, listOf svs.toArray zsv) :: (r, runObj d) :: (d, runDict w tw ov lim sv fr mv dP st us) :: (dP, oP) :: (lim, instObj 1053 ld) :: (ld, limDict w tl ol ul) :: (fr, listOf #[] zf) :: Y := ⟨_, rfl⟩
  replace N : News h₀ L h ((c, oc) :: (cl, listOf cells.toArray zc) :: R) := by
    subst hR
    refine News.sub9 N ?_
    repeat' (first | k_mem | refine' List.forall_mem_cons.mpr ⟨?_, ?_⟩ | exact sub_refl | refine' sub_cons ?_)
  have Rc : AllNe c R := by rw [hR]; repeat' (first | exact Yc | refine' allNe_cons ?_ ?_ | k_ne)
  have Rcl : AllNe cl R := by rw [hR]; repeat' (first | exact Ycl | refine' allNe_cons ?_ ?_ | k_ne)
  have hcut : CutOn := trivial
  refine law_fold ?_
  intro e9 A9
  k_steps
  clear hcut Rc Rcl
  subst hR
  rename News _ _ _ _ => N9
  replace N9 : News h₀ L h' ((c, o') :: (cl, listOf cells.toArray zc) :: (I, oI) :: (sc, listOf scs.toArray zsc) :: (sn, listOf sns.toArray zsn) :: (sv, listOf svs.toArray zsv) :: (r, runObj d) :: (d, runDict w tw ov lim sv fr mv dP st us) :: (dP, oP) :: (lim, instObj 1053 ld) :: (ld, limDict w tl ol ul) :: (fr, listOf #[] zf) :: Y) := by
    refine News.sub9 N9 ?_
    repeat' (first | k_mem | refine' List.forall_mem_cons.mpr ⟨?_, ?_⟩ | exact sub_refl | refine' sub_cons ?_)
  refine Hold.go ?_
  k_steps
  · rename News _ _ _ _ => N9
    rename Obj.IsDictOf _ _ _ => hC9
    subst hQQ
    exact scope_end (by assumption) N9 hY hcI ⟨rfl, rfl, rfl, rfl, rfl⟩ hC9 hk0 hk1 V0 V1 V2 nd
  · rename News _ _ _ _ => N9
    rename Fr _ _ _ _ => F9
    rename Obj.IsDictOf _ _ _ => hC9
    refine Hold.go (law_rest (zsc := zsc) (zsn := zsn) (zsv := zsv) (us := us) (st := st) hQQ hI hns loC loP KX T B hi hcI hC9 (by omega) (by omega) V0 V1 V2 nd ⟨rfl, rfl, rfl, rfl, rfl⟩ rfl F9 ?_)
    subst hY
    refine News.sub9 N9 ?_
    simp only [lawLed, runLed]
    repeat' (first | k_mem | refine' List.forall_mem_cons.mpr ⟨?_, ?_⟩ | exact sub_refl | refine' sub_cons ?_)
  · rename (List.isEmpty _ = false) => hb9
    obtain ⟨ws', mk, a9, t9, nw, tr, e9, S6, hmk, hm6, htr, hnw⟩ := S5.last (by intro e; rw [e] at hb9; cases hb9)
    subst e9
    obtain ⟨v1, v2, e9, hv1, S7, S8⟩ := S3.split mk (by rw [List.length_map]; exact hmk)
    subst e9
    have hws9 : ws'.length + 1 ≤ i := by
      have := V2.2.2.2.2.2
      rw [List.length_append] at this; exact this
    have hXY : ∀ q ∈ X, q ∈ Y := fun q hq => hY ▸ List.mem_append_right _ hq
    have TY : PatTab w Y oP xs := V0.1.mono hXY
    have SY := S8.mono hXY
    have hl9 := V0.2.2.1.1
    have hmk9 : ((v1.length : Nat) : Int) = (mk : Int) := by omega
    have hxs9 := V0.2.2.2.2.2.1
    have hst9 : ((past.map fun t => (t.1, t.2.1)).drop mk).length ≤ 9 := by
      have := V2.2.2.2.1
      rw [List.length_drop, List.length_map]; omega
    rename News _ _ _ _ => N9
    replace N9 := News.cons9 N9 (hXY _ hm6) (by kt_eqs)
    have hPa : @Ne Nat dP a9 := allNe_at YdP _ (hXY _ hm6)
    have hv9 : v1.length ≤ 9 := by
      have := V2.2.2.2.1
      omega
    k_steps
    rename News _ _ _ _ => N8
    rename TabTo _ _ _ _ _ _ _ => TT8
    rename PatTab _ _ _ _ => TP8
    rename Obj.IsDictOf _ _ _ => hC9
    subst hQQ
    refine' leave_end (by assumption) N8 ?hsub TP8 ?hx TT8 hcI ⟨rfl, rfl, rfl, rfl, rfl⟩ hC9 hk0 hk1 hi V0 V1 V2 S6 hmk htr hnw S7 (by omega) nd
    case hsub =>
      simp only [lawLed, runLed]
      rw [← hY]
      repeat' (first | k_mem | refine' List.forall_mem_cons.mpr ⟨?_, ?_⟩ | exact sub_refl | refine' sub_cons ?_)
    case hx =>
      refine List.forall_mem_cons.mpr ⟨.inl hm6, List.forall_mem_cons.mpr ⟨.inr (by simp), List.forall_mem_cons.mpr ⟨.inr (by rw [dict_cls hC9]; decide), List.forall_mem_cons.mpr ⟨.inr (by simp), List.forall_mem_cons.mpr ⟨.inr (by rw [hcI]; decide), List.forall_mem_cons.mpr ⟨.inr (by simp), List.forall_mem_cons.mpr ⟨.inr (by simp), tail_or V0.2.2.2.2.2.2 hY⟩⟩⟩⟩⟩⟩⟩
  · rename News _ _ _ _ => N9
    rename Fr _ _ _ _ => F9
    rename Obj.IsDictOf _ _ _ => hC9
    refine Hold.go (law_rest (zsc := zsc) (zsn := zsn) (zsv := zsv) (us := us) (st := st) hQQ hI hns loC loP KX T B hi hcI hC9 (by omega) (by omega) V0 V1 V2 nd ⟨rfl, rfl, rfl, rfl, rfl⟩ rfl F9 ?_)
    subst hY
    refine News.sub9 N9 ?_
    simp only [lawLed, runLed]
    repeat' (first | k_mem | refine' List.forall_mem_cons.mpr ⟨?_, ?_⟩ | exact sub_refl | refine' sub_cons ?_)
-- part V0
theorem run_sub {h₀ h : Heap} {L : Addr} {a b c e1 e2 f1 f2 f3 f4 f5 x y : Addr × Obj} {l : Led} (N : News h₀ L h (a :: b :: c :: e1 :: e2 :: f1 :: f2 :: f3 :: f4 :: f5 :: x :: y :: l)) : News h₀ L h (x :: y :: c :: b :: a :: l) := fun q hq => by
  simp only [List.mem_cons] at hq
  refine N q ?_
  simp only [List.mem_cons]
  rcases hq with h | h | h | h | h | h <;> simp [h]
noncomputable abbrev pick {α : Type} (l : List α) (d : α) : Nat → α := fun i => l.getD i d
section
variable {w : World} {mean : ExcName → Option Value} {mg mb : Str → Option Value} {dp un : Nat} {gd : Option (List Code)} {cn : Str} {cs : Scope} {a : Addr} {ccd : Value} {cl : List (Str × Addr)} {outer : List Env} {A₀ : Around} {base h₀ : Heap} {L : Addr} {m : Str → Option Value} {s : Shared} {Q E : Value → Shared → Prop} {news : Led}
set_option maxHeartbeats 4000000 in
theorem limits_new  (B : Below A₀ base outer h₀) (F : Fr h₀ L s.heap m) (X : (KF w.params).In h₀) (N : News h₀ L s.heap news) (T : TopE mean mg mb h₀) (hk : cs.kind = .function) (hd : dp + 20 < recursionLimit) (hu : un + 200 < cLine)
    (ret : ∀ lim ld tl ol ul h' tk', (∀ p ∈ news, @LT.lt Nat _ p.1 ld) → @LT.lt Nat _ ld lim → Fr h₀ L h' m → News h₀ L h' ((lim, instObj 1053 ld) :: (ld, limDict w tl ol ul) :: news) → Q (.ref lim) { s with heap := h', toks := tk' }) :
    wpAny (model pE w) (ktrTop dp un gd cn cs L a ccd cl outer) (call (.ref 1053) []) Q E s := by
  w_on
  k_steps
  exact ret _ _ (pick [_, _, _, _, _] 0) (pick [_, _, _, .none, _] .none) _ _ _ (by assumption) (by assumption) (by assumption) (by assumption)
set_option maxHeartbeats 4000000 in
theorem heap_new {lim : Addr} (B : Below A₀ base outer h₀) (F : Fr h₀ L s.heap m) (X : (KF w.params).In h₀) (N : News h₀ L s.heap news) (T : TopE mean mg mb h₀) (hk : cs.kind = .function) (hd : dp + 20 < recursionLimit) (hu : un + 200 < cLine)
    (ret : ∀ hp hd t1 t2 t3 t4 (z : Addr) h' tk', (∀ p ∈ news, @LT.lt Nat _ p.1 hd) → @LT.lt Nat _ hd hp → Fr h₀ L h' m → News h₀ L h' ((hp, instObj 142 hd) :: (hd, dictOf [En w "limits" t1 (.ref lim), En w "last" t2 (.int 0 t4), En w "zero" t3 (.ref z)] 3) :: news) → Q (.ref hp) { s with heap := h', toks := tk' }) :
    wpAny (model pE w) (ktrTop dp un gd cn cs L a ccd cl outer) (call (.ref 142) [.ref lim]) Q E s := by
  w_on
  k_steps
  (rename News _ _ _ _ => N9)
  exact ret _ _ _ _ _ _ _ _ _ (by assumption) (by assumption) (by assumption) (fun q hq => N9 q (.tail _ hq))
set_option maxHeartbeats 4000000 in
theorem counter_new {hp : Addr} (B : Below A₀ base outer h₀) (F : Fr h₀ L s.heap m) (X : (KF w.params).In h₀) (N : News h₀ L s.heap news) (T : TopE mean mg mb h₀) (hk : cs.kind = .function) (hd : dp + 20 < recursionLimit) (hu : un + 200 < cLine)
    (ret : ∀ c9 h' tk', Fr h₀ L h' m → News h₀ L h' news → Q (.ref c9) { s with heap := h', toks := tk' }) :
    wpAny (model pE w) (ktrTop dp un gd cn cs L a ccd cl outer) (call (.ref 1031) [.ref hp, .none]) Q E s := by
  w_on
  k_steps
  (rename News _ _ _ _ => N9)
  exact ret _ _ _ (by assumption) (fun q hq => N9 q (.tail _ (.tail _ (.tail _ (.tail _ hq)))))
set_option maxHeartbeats 4000000 in
theorem run_new {hp c9 lim : Addr} (B : Below A₀ base outer h₀) (F : Fr h₀ L s.heap m) (X : (KF w.params).In h₀) (N : News h₀ L s.heap news) (T : TopE mean mg mb h₀) (hk : cs.kind = .function) (hd : dp + 20 < recursionLimit) (hu : un + 200 < cLine)
    (ret : ∀ r d sv fr dP oP tw ov u zs zf h' tk', (∀ p ∈ news, @LT.lt Nat _ p.1 d) → @LT.lt Nat _ d r → @LT.lt Nat _ r sv → @LT.lt Nat _ sv fr → @LT.lt Nat _ fr dP → (dP == sysModules) = false → oP.IsDictOf (PySem.strKind pE w) [] → Fr h₀ L h' m → News h₀ L h' ((r, runObj d) :: (d, runDict w tw ov lim sv fr .none dP 0 u) :: (sv, listOf #[] zs) :: (fr, listOf #[] zf) :: (dP, oP) :: news) → Q (.ref r) { s with heap := h', toks := tk' }) :
    wpAny (model pE w) (ktrTop dp un gd cn cs L a ccd cl outer) (call (.ref 881) [.ref hp, .ref c9, .none, .ref lim]) Q E s := by
  w_on
  k_steps
  (rename News _ _ _ _ => N9)
  (rename Obj.IsDictOf (PySem.strKind pE w) _ _ => hD9)
  refine ret _ _ _ _ _ _ (pick [_, _, _, _, _, _, _, _, _, _, _, _, _, _, _, _, _, _, _] 0) (pick [_, _, _, .none, _, _, _, _, _, _, _, .none, .none, .none, .none, .none, _, _, _] .none) _ _ _ _ _ (by assumption) (by assumption) ?_ ?_ ?_ (by assumption) hD9 (by assumption) (run_sub N9)
  · omega
  · omega
  · omega
end
-- part T17
theorem rowsT17_1 : True := by
  k_with "m call ref" => (first | (k_here; k_dflt (first | ((with_reducible show wpAny _ _ (call (Value.ref 1053) _) _ _ _); (refine' limits_new ?kB ?kF ?kX ?kN ?kT ?kK ?kD ?kU ?_)) | ((with_reducible show wpAny _ _ (call (Value.ref 142) _) _ _ _); (refine' heap_new ?kB ?kF ?kX ?kN ?kT ?kK ?kD ?kU ?_)) | ((with_reducible show wpAny _ _ (call (Value.ref 1031) _) _ _ _); (refine' counter_new ?kB ?kF ?kX ?kN ?kT ?kK ?kD ?kU ?_)) | ((with_reducible show wpAny _ _ (call (Value.ref 881) _) _ _ _); (refine' run_new ?kB ?kF ?kX ?kN ?kT ?kK ?kD ?kU ?_))); (case kB => k_asm); (case kF => k_asm); (case kX => k_asm); (case kN => k_asm); (case kT => k_asm); (case kK => exact rfl); (case kD => ktr_room); (case kU => ktr_units); intros; (try ((rename (∀ p, p ∈ (_ : List (Addr × Obj)) → @LT.lt Nat _ p.1 _) => l9'); k_lt l9')); (try k_sweep)) | fail "row")
  k_with "m execs cons" => (first | ((with_reducible show wpAny _ _ (execs (Stmt.Assign [Expr.Tuple _ _ _] (Expr.Tuple _ _ _) _ :: _) _) _ _ _); k_here; (with_reducible refine wpAny_execs_cons ?_); (try dsimp only)) | fail "row")
  k_with "m exec For Name Call cons nil" => (first | (k_here; (rename Fr _ _ _ _ => lF'); (with_unfolding_all refine' For_invVF lF' ?k1 ?k2 ?_; (case k1 => exact rfl); (case k2 => exact rfl); k_whole)) | fail "row")
  k_with "m pyIter ref" => (first | (refine Hold.out ?_) | fail "row")
  trivial
theorem small_range {j : Int} (h0 : 0 ≤ j) (h1 : j < 9) : Builtin.Range.small 0 (1 + j) 1 = true ∧ Builtin.Range.rangeSize 0 (1 + j) 1 = (((1 + j).toNat : Nat) : Int) := by
  obtain ⟨n, rfl⟩ := Int.eq_ofNat_of_zero_le h0
  have h2 : n < 9 := Int.ofNat_lt.mp h1
  have key : ∀ n : Fin 9, Builtin.Range.small 0 (1 + ((n.val : Nat) : Int)) 1 = true ∧ Builtin.Range.rangeSize 0 (1 + ((n.val : Nat) : Int)) 1 = (((1 + ((n.val : Nat) : Int)).toNat : Nat) : Int) := by decide
  exact key ⟨n, h2⟩
theorem sort_cons {a b : Nat} {l : List Nat} (h : a < b) (p : (b :: l).Pairwise (· < ·)) : (a :: b :: l).Pairwise (· < ·) :=
  List.pairwise_cons.mpr ⟨fun x hx => by
    rcases List.mem_cons.mp hx with rfl | hx
    · exact h
    · exact Nat.lt_trans h ((List.pairwise_cons.mp p).1 x hx), p⟩
theorem eleven {r d dP lim ld fr c cl sc sn sv : Nat} (h1 : c < cl) (h2 : cl < ld) (h3 : ld < lim) (h4 : lim < d) (h5 : d < r) (h6 : r < sv) (h7 : sv < fr) (h8 : fr < dP) (h9 : dP < sc) (h10 : sc < sn) : [r, d, dP, lim, ld, fr, c, cl, sc, sn, sv].Nodup := by
  have s : [c, cl, ld, lim, d, r, sv, fr, dP, sc, sn].Pairwise (· < ·) := sort_cons h1 (sort_cons h2 (sort_cons h3 (sort_cons h4 (sort_cons h5 (sort_cons h6 (sort_cons h7 (sort_cons h8 (sort_cons h9 (sort_cons h10 (List.pairwise_singleton _ _))))))))))
  have n : [c, cl, ld, lim, d, r, sv, fr, dP, sc, sn].Nodup := s.imp fun h => Nat.ne_of_lt h
  have p : List.Perm [5, 4, 8, 3, 2, 7, 0, 1, 9, 10, 6] [0, 1, 2, 3, 4, 5, 6, 7, 8, 9, 10] := by decide
  exact (p.map fun i => List.getD [c, cl, ld, lim, d, r, sv, fr, dP, sc, sn] i 0).nodup_iff.mpr n
theorem law_start {w : World} {tw tl : Nat → Nat} {ov ol : Nat → Value} {c cl r d lim ld sv fr dP sc sn D hp hd : Addr} {ul zf zc us zsc zsn zsv u : Nat} {cells : List Value} {h₀ h : Heap} {L : Addr} {m : Str → Option Value} {oc oP oD oh ohd : Obj}
    (N : News h₀ L h [(c, oc), (cl, listOf cells.toArray zc), (D, oD), (sn, listOf #[] zsn), (sc, listOf #[] zsc), (r, runObj d), (d, runDict w tw ov lim sv fr .none dP 0 us), (sv, listOf #[] zsv), (fr, listOf #[] zf), (dP, oP), (hp, oh), (hd, ohd), (lim, instObj 1053 ld), (ld, limDict w tl ol ul)])
    (F : Fr h₀ L h m) (hM : LawM m c r sc sn .none) (hC : oc.IsDictOf (PySem.strKind pE w) (cupOf cl (0 + 1) u)) (hD : oP.IsDictOf (PySem.strKind pE w) []) (nd : [r, d, dP, lim, ld, fr, c, cl, sc, sn, sv].Nodup) :
    ∃ news, News h₀ L h news ∧ LawInv w tw tl ov ol c cl r d lim ld sv fr dP sc sn ul zf zc cells 0 m news := by
  refine ⟨lawLed w tw tl ov ol c cl r d lim ld sv fr dP sc sn ul zf zc cells oc oP .none 0 us [] [] [] zsc zsn zsv [] [], News.sub9 N ?_, 0 + 1, u, oc, oP, .none, .none, .none, 0, us, [], [], [], zsc, zsn, zsv, [], [], [], [], [], 0, rfl, hM, hC, by decide, by decide, ?_, ?_, ?_, nd⟩
  · simp only [lawLed, runLed]
    repeat' (first | exact List.forall_mem_nil _ | k_mem | refine' List.forall_mem_cons.mpr ⟨?_, ?_⟩)
  · exact ⟨PatTab.ofEmpty hD, (fun _ h => nomatch h), ⟨rfl, fun _ _ _ _ => .inl rfl, (fun _ h => nomatch h)⟩, .inl ⟨rfl, rfl⟩, by decide, Nat.le_refl _, (fun _ h => nomatch h)⟩
  · exact ⟨.nil, (fun _ h => nomatch h), Nat.le_refl _⟩
  · refine ⟨fun t ht => ?_, rfl, .nil, Nat.le_refl _, .nil, Nat.le_refl _⟩
    rw [List.mem_singleton.mp ht]
    exact ⟨rfl, .inl ⟨rfl, rfl⟩⟩
theorem rowsT17_2 : True := by
  k_with "m call ref" => (first | ((with_reducible show wpAny _ _ (call (Value.ref 288) _) _ _ _); refine Hold.out ?_) | fail "row")
  trivial
noncomputable def afterLoop : List Stmt → List Stmt
  | _ :: _ :: _ :: _ :: _ :: r => r
  | _ => []
@[reducible] noncomputable def lawEnd : List Stmt := (⟨_, by conv => lhs; whnf⟩ : {b : List Stmt // afterLoop B119 = b}).1
set_option maxHeartbeats 4000000 in
theorem law_last {w : World} {tw tl : Nat → Nat} {ov ol : Nat → Value} {c cl r d lim ld sv fr dP sc sn : Addr} {ul zf zc : Nat} {cells : List Value} {mean : ExcName → Option Value} {mg mb : Str → Option Value} {h₀ h : Heap} {L : Addr} {m₁ : Str → Option Value} {s : Shared} {Q : Flow → Shared → Prop} {E : Value → Shared → Prop} {n tk : Nat} {news₁ : Led}
    (loP : (dP == sysModules) = false) (KX : (KF w.params).In h₀) (T : TopE mean mg mb h₀) (B : Below callerA h₀ [] h₀) (hn : n ≤ 9) (J : LawInv w tw tl ov ol c cl r d lim ld sv fr dP sc sn ul zf zc cells n m₁ news₁) (F : Fr h₀ L h m₁) (N : News h₀ L h news₁)
    (ret : ∀ h' tk' m', Fr h₀ L h' m' → Q (.ret (.bool true)) { s with heap := h', toks := tk' }) :
    wpAny (model pE w) (callerA.deeper (envOf (Str.ofString "law") Sc119 L 1097 (.ref 1096))) (execs lawEnd (envOf (Str.ofString "law") Sc119 L 1097 (.ref 1096))) Q E { s with heap := h, toks := tk } := by
  obtain ⟨k, u, oc, oP, mv, lv, now, st, us, scs, sns, svs, zsc, zsn, zsv, xs, ps, Ks, past, X, kept0, rfl, hM, hC, hk0, hk1, V0, V1, V2, nd0⟩ := J
  have n11 : [r, d, dP, lim, ld, fr, c, cl, sc, sn, sv].Nodup := by
    rw [← List.append_assoc] at nd0
    exact (List.nodup_append.mp nd0).1
  have sub : ∀ q ∈ X, q ∈ lawLed w tw tl ov ol c cl r d lim ld sv fr dP sc sn ul zf zc cells oc oP mv st us scs sns svs zsc zsn zsv ps X := fun q hq => (.tail _ (.tail _ (.tail _ (.tail _ (.tail _ (.tail _ (.tail _ (.tail _ (.tail _ (.tail _ (.tail _ (List.mem_append_right _ hq))))))))))))
  have Ysv : AllNe sv (progsLed ps ++ X) := allNe_progs nd0 (.inr (by simp)) N V0.2.1 sub (.tail _ (.tail _ (.tail _ (.tail _ (.head _))))) (by simp)
  have Yd : AllNe d (progsLed ps ++ X) := allNe_progs nd0 (.inl (by simp)) N V0.2.1 sub (.tail _ (.tail _ (.tail _ (.tail _ (.tail _ (.tail _ (.head _))))))) (by simp)
  have YdP : AllNe dP (progsLed ps ++ X) := allNe_progs nd0 (.inl (by simp)) N V0.2.1 sub (.tail _ (.tail _ (.tail _ (.tail _ (.tail _ (.tail _ (.tail _ (.head _)))))))) (by rw [V0.1.1.1]; decide)
  rw [hM.map] at F
  obtain ⟨Y, hY⟩ : ∃ Y, Y = progsLed ps ++ X := ⟨_, rfl⟩
  simp only [lawLed, runLed] at N
  rw [← hY] at N Ysv Yd YdP
  have hXY : ∀ q ∈ X, q ∈ Y := fun q hq => hY ▸ List.mem_append_right _ hq
  have TY : PatTab w Y oP xs := V0.1.mono hXY
  have S3 := V2.2.2.1
  have SY := S3.mono hXY
  have hl9 := V0.2.2.1.1
  have hxs9 := V0.2.2.2.2.2.1
  have hpl9 := V2.2.2.2.1
  have hst9 : (past.map fun t => (t.1, t.2.1)).length ≤ 9 := by rw [List.length_map]; omega
  have hm9 : (((([] : List Value)).length : Nat) : Int) = 0 := rfl
  refine law_fold ?_
  intro e9 A9
  k_steps
  refine Hold.go ?_
  k_here
  k_dflt (refine' Spec.tk (leave_spec (sv := sv) (d := d) (dP := dP) (lim := lim) (ld := ld) (fr := fr) (vs := []) (ws := svs) (mark := 0) (sts := past.map fun t => (t.1, t.2.1)) ?t0 ?lo ?hl ?hn ?s1 ?s2 ?s3 ?s4 ?s5 ?s6 ?sX ?hz ?hv ?hS ?hm) ?kB ?kF ?kX ?kN ?kS ?kR ?kT ?kK ?kD ?kU ?_)
  case hl => assumption
  case hm => exact hm9
  kwd_inv
  case hS => exact SavesAre.mono (by assumption) (by kt_eqs)
  case t0 => exact PatTab.mono2 (by assumption) (by kt_eqs)
  case lo => assumption
  case hn => refine ⟨?_, ?_, ?_, ?_, ?_, ?_, ?_, ?_⟩ <;> repeat' (first | assumption | exact allNe_nil | refine' allNe_cons ?_ ?_ | k_ne)
  case s1 => k_ne
  case s2 => k_ne
  case s3 => k_ne
  case s4 => k_ne
  case s5 => k_ne
  case s6 => k_ne
  case sX => repeat' (first | assumption | exact allNe_nil | refine' allNe_cons ?_ ?_ | k_ne)
  case hz => tb_rel
  case hv => (simp only [List.length_nil]; omega)
  k_dflt (rintro v' l' h' tk' ⟨e1', _, oP', xs', mv', lv', e2', TP', TT'⟩ F' N' ne')
  subst e1'
  subst e2'
  simp only [runLed, List.cons_append, List.nil_append, List.append_nil] at N'
  clear ne'
  obtain ⟨t1, t2, t3, t4, t5⟩ := TT'
  have e9 : mv' = .none ∧ lv' = .none := by
    have h9 : ((past.map fun t => (t.1, t.2.1)) ++ [(mv, lv)]).head? = some (.none, .none) := by
      have : (past.map fun t => (t.1, t.2.1)) ++ [(mv, lv)] = (past ++ [(mv, lv, now)]).map fun t => (t.1, t.2.1) := by rw [List.map_append]; rfl
      rw [this, List.head?_map, V2.2.1]; rfl
    rw [List.headD_eq_head?_getD, h9] at t5
    injection t5 with t5 t6
    exact ⟨t5, t6⟩
  obtain ⟨rfl, rfl⟩ := e9
  k_steps
  exact ret _ _ _ (by assumption)
theorem lk0 {a b : Nat} { r : Prop} (h : a < b ∧ r) : a < b := h.1
theorem lk1 {a b : Nat} {p0 r : Prop} (h : p0 ∧ a < b ∧ r) : a < b := h.2.1
theorem lk2 {a b : Nat} {p0 p1 r : Prop} (h : p0 ∧ p1 ∧ a < b ∧ r) : a < b := h.2.2.1
theorem lk3 {a b : Nat} {p0 p1 p2 r : Prop} (h : p0 ∧ p1 ∧ p2 ∧ a < b ∧ r) : a < b := h.2.2.2.1
theorem lk4 {a b : Nat} {p0 p1 p2 p3 r : Prop} (h : p0 ∧ p1 ∧ p2 ∧ p3 ∧ a < b ∧ r) : a < b := h.2.2.2.2.1
theorem lk5 {a b : Nat} {p0 p1 p2 p3 p4 r : Prop} (h : p0 ∧ p1 ∧ p2 ∧ p3 ∧ p4 ∧ a < b ∧ r) : a < b := h.2.2.2.2.2.1
theorem lk6 {a b : Nat} {p0 p1 p2 p3 p4 p5 r : Prop} (h : p0 ∧ p1 ∧ p2 ∧ p3 ∧ p4 ∧ p5 ∧ a < b ∧ r) : a < b := h.2.2.2.2.2.2.1
theorem lk7 {a b : Nat} {p0 p1 p2 p3 p4 p5 p6 r : Prop} (h : p0 ∧ p1 ∧ p2 ∧ p3 ∧ p4 ∧ p5 ∧ p6 ∧ a < b ∧ r) : a < b := h.2.2.2.2.2.2.2.1
theorem lk8 {a b : Nat} {p0 p1 p2 p3 p4 p5 p6 p7 r : Prop} (h : p0 ∧ p1 ∧ p2 ∧ p3 ∧ p4 ∧ p5 ∧ p6 ∧ p7 ∧ a < b ∧ r) : a < b := h.2.2.2.2.2.2.2.2.1
theorem lk9 {a b : Nat} {p0 p1 p2 p3 p4 p5 p6 p7 p8 r : Prop} (h : p0 ∧ p1 ∧ p2 ∧ p3 ∧ p4 ∧ p5 ∧ p6 ∧ p7 ∧ p8 ∧ a < b ∧ r) : a < b := h.2.2.2.2.2.2.2.2.2.1
theorem lk10 {a b : Nat} {p0 p1 p2 p3 p4 p5 p6 p7 p8 p9 r : Prop} (h : p0 ∧ p1 ∧ p2 ∧ p3 ∧ p4 ∧ p5 ∧ p6 ∧ p7 ∧ p8 ∧ p9 ∧ a < b ∧ r) : a < b := h.2.2.2.2.2.2.2.2.2.2.1
theorem lk11 {a b : Nat} {p0 p1 p2 p3 p4 p5 p6 p7 p8 p9 p10 r : Prop} (h : p0 ∧ p1 ∧ p2 ∧ p3 ∧ p4 ∧ p5 ∧ p6 ∧ p7 ∧ p8 ∧ p9 ∧ p10 ∧ a < b ∧ r) : a < b := h.2.2.2.2.2.2.2.2.2.2.2.1
theorem lk12 {a b : Nat} {p0 p1 p2 p3 p4 p5 p6 p7 p8 p9 p10 p11 r : Prop} (h : p0 ∧ p1 ∧ p2 ∧ p3 ∧ p4 ∧ p5 ∧ p6 ∧ p7 ∧ p8 ∧ p9 ∧ p10 ∧ p11 ∧ a < b ∧ r) : a < b := h.2.2.2.2.2.2.2.2.2.2.2.2.1
theorem rowsT17_3 : True := by
  k_with "n tb_rel" => (first | (first | assumption | exact lk0 (by assumption) | exact lk1 (by assumption) | exact lk2 (by assumption) | exact lk3 (by assumption) | exact lk4 (by assumption) | exact lk5 (by assumption) | exact lk6 (by assumption) | exact lk7 (by assumption) | exact lk8 (by assumption) | exact lk9 (by assumption) | exact lk10 (by assumption) | exact lk11 (by assumption) | exact lk12 (by assumption) | omega) | fail "row")
  trivial
set_option maxHeartbeats 4000000 in
theorem law_walk (w : World) (s₁ : Shared) (mean : ExcName → Option Value) (mg mb : Str → Option Value) (l : Addr) (vs : List Value) (ns : List Int)
      (KX : (KF w.params).In s₁.heap) (T : TopE mean mg mb s₁.heap) (hg : s₁.gens = #[]) (hL : s₁.heap.IsList l vs.toArray) (hI : IntsAre vs ns) (hlen : ns.length ≤ 63) :
      codeAny (model pE w) callerA (.call (.ref 1097) ⟨[.ref l], []⟩) (Ends s₁) s₁ := by
  w_on
  k_dflt (refine' top_call ?k3 ?k5 ?k6 ?k7 ?k9 ?kB ?_ ?c2 ?c3 ?c4 ?c5; (case k3 => k_asm); (case k5 => k_asm); (case k6 => k_is); (case k7 => k_is); (case k9 => exact BindsTo.of_eq (binds := [(_, _)]) rfl); (case c5 => decide); (case kB => exact locs rfl); (case c2 => exact rfl); (case c3 => exact rfl); (case c4 => exact rfl); k_whole; intro L' h' tk' F' N' B' e9 A9; (dsimp only [List.reverse, List.reverseAux] at F'); (try dsimp only); (try k_lift B'); (try k_fold))
  k_steps
  rename News _ _ _ _ => N9
  rename (IntsAre _ (List.take 40 ns)) => hI9
  rename Obj.IsDictOf (PySem.strKind pE w) _ (cupOf _ _ _) => hC9
  rename Fr _ _ _ _ => F9
  rename (IsRange _ _ _ _ _ _ _ _) => hR9
  rename (_ < 9) => hj9
  rename (0 ≤ _) => hj0
  obtain ⟨hsm, hrs⟩ := small_range hj0 hj9
  have hcl : (List.take 40 ns).length ≤ 40 := by omega
  obtain ⟨news, N8, J8⟩ := law_start N9 F9 ⟨rfl, rfl, rfl, rfl, rfl⟩ hC9 (by assumption) (eleven (by tb_rel) (by tb_rel) (by tb_rel) (by tb_rel) (by tb_rel) (by tb_rel) (by tb_rel) (by tb_rel) (by tb_rel) (by tb_rel))
  refine Hold.go (range_grow (fun i m news => LawInv w _ _ _ _ _ _ _ _ _ _ _ _ _ _ _ _ _ _ _ i m news) rfl hR9 hsm hrs F9 N8 J8 ?turn ?done)
  case turn =>
    intro i v m₁ news₁ h tk I oI hin J hcI hoff F N
    exact law_turn rfl hI9 hcl (by assumption) (by assumption) KX T B' (by omega) J hcI hoff F N
  case done =>
    rintro m₁ news₁ h tk J F N
    dsimp only
    exact law_last (by assumption) KX T B' (by omega) J F N fun h' tk' m' F' => ⟨rfl, F'.keep, hg, rfl⟩
end Mine
theorem PySem.Challenge.cw_qz0143_01_holds : PySem.Challenge.rw_qz0143_01.Holds := by
  exact Mine.head Mine.law_walk
