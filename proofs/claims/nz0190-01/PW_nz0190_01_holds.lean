import PyProof.Rows.All
import Wide.All
import OpenK.AllK
import Wide.FinOn
import PySem.Challenge.RW_nz0190_01
open PySem PySem.W PyProof.Rows PySem.Calls
set_option Elab.async false
set_option maxRecDepth 100000
namespace Nz
abbrev so (s : String) : Str := Str.ofString s
noncomputable abbrev kh (P : Params) (s : Str) := PyData.keyHash P s
abbrev pick {α : Type} (a b : α) (_ : a = b) : α := b
noncomputable def nst : Nat → List Stmt → Stmt
  | 0, s :: _ => s
  | n + 1, _ :: r => nst n r
  | _, [] => .Pass ⟨0, 0, 0, 0⟩
noncomputable def cbody : Stmt → List Stmt
  | .ClassDef _ _ _ b _ _ _ _ _ _ _ => b
  | _ => []
noncomputable def fpar : Stmt → Arguments
  | .FunctionDef _ p _ _ _ _ _ _ _ _ => p
  | _ => ⟨[], [], none, [], [], none, []⟩
noncomputable def fbod : Stmt → List Stmt
  | .FunctionDef _ _ b _ _ _ _ _ _ _ => b
  | _ => []
noncomputable def fsco : Stmt → Scope
  | .FunctionDef _ _ _ _ _ _ s _ _ _ => s
  | _ => default
noncomputable abbrev pbody : List Stmt := PySem.Challenge.pw_nz0190_01.main.body
noncomputable def ce1 : Stmt := pick (nst 1 pbody) _ (by conv => (lhs; whnf))
noncomputable def ce2 : Stmt := pick (nst 2 pbody) _ (by conv => (lhs; whnf))
noncomputable def ce4 : Stmt := pick (nst 4 pbody) _ (by conv => (lhs; whnf))
noncomputable def ce5 : Stmt := pick (nst 5 pbody) _ (by conv => (lhs; whnf))
noncomputable def ce6 : Stmt := pick (nst 6 pbody) _ (by conv => (lhs; whnf))
noncomputable def ce7 : Stmt := pick (nst 7 pbody) _ (by conv => (lhs; whnf))
noncomputable def ce8 : Stmt := pick (nst 8 pbody) _ (by conv => (lhs; whnf))
noncomputable def ce9 : Stmt := pick (nst 9 pbody) _ (by conv => (lhs; whnf))
noncomputable def ce10 : Stmt := pick (nst 10 pbody) _ (by conv => (lhs; whnf))
noncomputable def ce11 : Stmt := pick (nst 11 pbody) _ (by conv => (lhs; whnf))
noncomputable def ce12 : Stmt := pick (nst 12 pbody) _ (by conv => (lhs; whnf))
noncomputable def ce13 : Stmt := pick (nst 13 pbody) _ (by conv => (lhs; whnf))
noncomputable def ce14 : Stmt := pick (nst 14 pbody) _ (by conv => (lhs; whnf))
noncomputable def ce15 : Stmt := pick (nst 15 pbody) _ (by conv => (lhs; whnf))
noncomputable def ce16 : Stmt := pick (nst 16 pbody) _ (by conv => (lhs; whnf))
noncomputable def ce17 : Stmt := pick (nst 17 pbody) _ (by conv => (lhs; whnf))
noncomputable def ce18 : Stmt := pick (nst 18 pbody) _ (by conv => (lhs; whnf))
noncomputable def ce19 : Stmt := pick (nst 19 pbody) _ (by conv => (lhs; whnf))
noncomputable def ce20 : Stmt := pick (nst 20 pbody) _ (by conv => (lhs; whnf))
noncomputable def ce21 : Stmt := pick (nst 21 pbody) _ (by conv => (lhs; whnf))
noncomputable def ce22 : Stmt := pick (nst 22 pbody) _ (by conv => (lhs; whnf))
noncomputable def ce24 : Stmt := pick (nst 24 pbody) _ (by conv => (lhs; whnf))
noncomputable def ce25 : Stmt := pick (nst 25 pbody) _ (by conv => (lhs; whnf))
noncomputable def ce26 : Stmt := pick (nst 26 pbody) _ (by conv => (lhs; whnf))
noncomputable def ce27 : Stmt := pick (nst 27 pbody) _ (by conv => (lhs; whnf))
noncomputable def ce28 : Stmt := pick (nst 28 pbody) _ (by conv => (lhs; whnf))
noncomputable def ce29 : Stmt := pick (nst 29 pbody) _ (by conv => (lhs; whnf))
noncomputable def ce30 : Stmt := pick (nst 30 pbody) _ (by conv => (lhs; whnf))
noncomputable def ce31 : Stmt := pick (nst 31 pbody) _ (by conv => (lhs; whnf))
noncomputable def ce32 : Stmt := pick (nst 32 pbody) _ (by conv => (lhs; whnf))
noncomputable def ce33 : Stmt := pick (nst 33 pbody) _ (by conv => (lhs; whnf))
noncomputable def ce34 : Stmt := pick (nst 34 pbody) _ (by conv => (lhs; whnf))
noncomputable def ce35 : Stmt := pick (nst 35 pbody) _ (by conv => (lhs; whnf))
noncomputable def ce36 : Stmt := pick (nst 36 pbody) _ (by conv => (lhs; whnf))
noncomputable def ce37 : Stmt := pick (nst 37 pbody) _ (by conv => (lhs; whnf))
noncomputable def ce38 : Stmt := pick (nst 38 pbody) _ (by conv => (lhs; whnf))
noncomputable def ce39 : Stmt := pick (nst 39 pbody) _ (by conv => (lhs; whnf))
noncomputable def ce40 : Stmt := pick (nst 40 pbody) _ (by conv => (lhs; whnf))
noncomputable def ce41 : Stmt := pick (nst 41 pbody) _ (by conv => (lhs; whnf))
noncomputable def ce42 : Stmt := pick (nst 42 pbody) _ (by conv => (lhs; whnf))
noncomputable def ce43 : Stmt := pick (nst 43 pbody) _ (by conv => (lhs; whnf))
noncomputable def ce44 : Stmt := pick (nst 44 pbody) _ (by conv => (lhs; whnf))
noncomputable def ce46 : Stmt := pick (nst 46 pbody) _ (by conv => (lhs; whnf))
noncomputable def ce47 : Stmt := pick (nst 47 pbody) _ (by conv => (lhs; whnf))
noncomputable def ce48 : Stmt := pick (nst 48 pbody) _ (by conv => (lhs; whnf))
noncomputable def ce49 : Stmt := pick (nst 49 pbody) _ (by conv => (lhs; whnf))
noncomputable def ce50 : Stmt := pick (nst 50 pbody) _ (by conv => (lhs; whnf))
noncomputable def ce51 : Stmt := pick (nst 51 pbody) _ (by conv => (lhs; whnf))
noncomputable def ce52 : Stmt := pick (nst 52 pbody) _ (by conv => (lhs; whnf))
noncomputable def ce53 : Stmt := pick (nst 53 pbody) _ (by conv => (lhs; whnf))
noncomputable def pa28 : Arguments := pick (fpar (nst 0 (cbody (nst 1 pbody)))) _ (by conv => (lhs; whnf))
noncomputable def bo28 : List Stmt := pick (fbod (nst 0 (cbody (nst 1 pbody)))) _ (by conv => (lhs; whnf))
noncomputable def sc28 : Scope := pick (fsco (nst 0 (cbody (nst 1 pbody)))) _ (by conv => (lhs; whnf))
noncomputable def pa48 : Arguments := pick (fpar (nst 0 (cbody (nst 2 pbody)))) _ (by conv => (lhs; whnf))
noncomputable def bo48 : List Stmt := pick (fbod (nst 0 (cbody (nst 2 pbody)))) _ (by conv => (lhs; whnf))
noncomputable def sc48 : Scope := pick (fsco (nst 0 (cbody (nst 2 pbody)))) _ (by conv => (lhs; whnf))
noncomputable def pa62 : Arguments := pick (fpar (nst 8 pbody)) _ (by conv => (lhs; whnf))
noncomputable def bo62 : List Stmt := pick (fbod (nst 8 pbody)) _ (by conv => (lhs; whnf))
noncomputable def sc62 : Scope := pick (fsco (nst 8 pbody)) _ (by conv => (lhs; whnf))
noncomputable def pa69 : Arguments := pick (fpar (nst 9 pbody)) _ (by conv => (lhs; whnf))
noncomputable def bo69 : List Stmt := pick (fbod (nst 9 pbody)) _ (by conv => (lhs; whnf))
noncomputable def sc69 : Scope := pick (fsco (nst 9 pbody)) _ (by conv => (lhs; whnf))
noncomputable def pa76 : Arguments := pick (fpar (nst 10 pbody)) _ (by conv => (lhs; whnf))
noncomputable def bo76 : List Stmt := pick (fbod (nst 10 pbody)) _ (by conv => (lhs; whnf))
noncomputable def sc76 : Scope := pick (fsco (nst 10 pbody)) _ (by conv => (lhs; whnf))
noncomputable def pa83 : Arguments := pick (fpar (nst 11 pbody)) _ (by conv => (lhs; whnf))
noncomputable def bo83 : List Stmt := pick (fbod (nst 11 pbody)) _ (by conv => (lhs; whnf))
noncomputable def sc83 : Scope := pick (fsco (nst 11 pbody)) _ (by conv => (lhs; whnf))
noncomputable def pa90 : Arguments := pick (fpar (nst 12 pbody)) _ (by conv => (lhs; whnf))
noncomputable def bo90 : List Stmt := pick (fbod (nst 12 pbody)) _ (by conv => (lhs; whnf))
noncomputable def sc90 : Scope := pick (fsco (nst 12 pbody)) _ (by conv => (lhs; whnf))
noncomputable def pa97 : Arguments := pick (fpar (nst 13 pbody)) _ (by conv => (lhs; whnf))
noncomputable def bo97 : List Stmt := pick (fbod (nst 13 pbody)) _ (by conv => (lhs; whnf))
noncomputable def sc97 : Scope := pick (fsco (nst 13 pbody)) _ (by conv => (lhs; whnf))
noncomputable def pa104 : Arguments := pick (fpar (nst 14 pbody)) _ (by conv => (lhs; whnf))
noncomputable def bo104 : List Stmt := pick (fbod (nst 14 pbody)) _ (by conv => (lhs; whnf))
noncomputable def sc104 : Scope := pick (fsco (nst 14 pbody)) _ (by conv => (lhs; whnf))
noncomputable def pa111 : Arguments := pick (fpar (nst 15 pbody)) _ (by conv => (lhs; whnf))
noncomputable def bo111 : List Stmt := pick (fbod (nst 15 pbody)) _ (by conv => (lhs; whnf))
noncomputable def sc111 : Scope := pick (fsco (nst 15 pbody)) _ (by conv => (lhs; whnf))
noncomputable def pa118 : Arguments := pick (fpar (nst 16 pbody)) _ (by conv => (lhs; whnf))
noncomputable def bo118 : List Stmt := pick (fbod (nst 16 pbody)) _ (by conv => (lhs; whnf))
noncomputable def sc118 : Scope := pick (fsco (nst 16 pbody)) _ (by conv => (lhs; whnf))
noncomputable def pa125 : Arguments := pick (fpar (nst 17 pbody)) _ (by conv => (lhs; whnf))
noncomputable def bo125 : List Stmt := pick (fbod (nst 17 pbody)) _ (by conv => (lhs; whnf))
noncomputable def sc125 : Scope := pick (fsco (nst 17 pbody)) _ (by conv => (lhs; whnf))
noncomputable def pa132 : Arguments := pick (fpar (nst 18 pbody)) _ (by conv => (lhs; whnf))
noncomputable def bo132 : List Stmt := pick (fbod (nst 18 pbody)) _ (by conv => (lhs; whnf))
noncomputable def sc132 : Scope := pick (fsco (nst 18 pbody)) _ (by conv => (lhs; whnf))
noncomputable def pa139 : Arguments := pick (fpar (nst 19 pbody)) _ (by conv => (lhs; whnf))
noncomputable def bo139 : List Stmt := pick (fbod (nst 19 pbody)) _ (by conv => (lhs; whnf))
noncomputable def sc139 : Scope := pick (fsco (nst 19 pbody)) _ (by conv => (lhs; whnf))
noncomputable def pa146 : Arguments := pick (fpar (nst 20 pbody)) _ (by conv => (lhs; whnf))
noncomputable def bo146 : List Stmt := pick (fbod (nst 20 pbody)) _ (by conv => (lhs; whnf))
noncomputable def sc146 : Scope := pick (fsco (nst 20 pbody)) _ (by conv => (lhs; whnf))
noncomputable def pa153 : Arguments := pick (fpar (nst 21 pbody)) _ (by conv => (lhs; whnf))
noncomputable def bo153 : List Stmt := pick (fbod (nst 21 pbody)) _ (by conv => (lhs; whnf))
noncomputable def sc153 : Scope := pick (fsco (nst 21 pbody)) _ (by conv => (lhs; whnf))
noncomputable def pa160 : Arguments := pick (fpar (nst 22 pbody)) _ (by conv => (lhs; whnf))
noncomputable def bo160 : List Stmt := pick (fbod (nst 22 pbody)) _ (by conv => (lhs; whnf))
noncomputable def sc160 : Scope := pick (fsco (nst 22 pbody)) _ (by conv => (lhs; whnf))
noncomputable def pa167 : Arguments := pick (fpar (nst 26 pbody)) _ (by conv => (lhs; whnf))
noncomputable def bo167 : List Stmt := pick (fbod (nst 26 pbody)) _ (by conv => (lhs; whnf))
noncomputable def sc167 : Scope := pick (fsco (nst 26 pbody)) _ (by conv => (lhs; whnf))
noncomputable def pa174 : Arguments := pick (fpar (nst 27 pbody)) _ (by conv => (lhs; whnf))
noncomputable def bo174 : List Stmt := pick (fbod (nst 27 pbody)) _ (by conv => (lhs; whnf))
noncomputable def sc174 : Scope := pick (fsco (nst 27 pbody)) _ (by conv => (lhs; whnf))
noncomputable def pa181 : Arguments := pick (fpar (nst 28 pbody)) _ (by conv => (lhs; whnf))
noncomputable def bo181 : List Stmt := pick (fbod (nst 28 pbody)) _ (by conv => (lhs; whnf))
noncomputable def sc181 : Scope := pick (fsco (nst 28 pbody)) _ (by conv => (lhs; whnf))
noncomputable def pa188 : Arguments := pick (fpar (nst 29 pbody)) _ (by conv => (lhs; whnf))
noncomputable def bo188 : List Stmt := pick (fbod (nst 29 pbody)) _ (by conv => (lhs; whnf))
noncomputable def sc188 : Scope := pick (fsco (nst 29 pbody)) _ (by conv => (lhs; whnf))
noncomputable def pa195 : Arguments := pick (fpar (nst 30 pbody)) _ (by conv => (lhs; whnf))
noncomputable def bo195 : List Stmt := pick (fbod (nst 30 pbody)) _ (by conv => (lhs; whnf))
noncomputable def sc195 : Scope := pick (fsco (nst 30 pbody)) _ (by conv => (lhs; whnf))
noncomputable def pa202 : Arguments := pick (fpar (nst 31 pbody)) _ (by conv => (lhs; whnf))
noncomputable def bo202 : List Stmt := pick (fbod (nst 31 pbody)) _ (by conv => (lhs; whnf))
noncomputable def sc202 : Scope := pick (fsco (nst 31 pbody)) _ (by conv => (lhs; whnf))
noncomputable def pa209 : Arguments := pick (fpar (nst 32 pbody)) _ (by conv => (lhs; whnf))
noncomputable def bo209 : List Stmt := pick (fbod (nst 32 pbody)) _ (by conv => (lhs; whnf))
noncomputable def sc209 : Scope := pick (fsco (nst 32 pbody)) _ (by conv => (lhs; whnf))
noncomputable def pa216 : Arguments := pick (fpar (nst 33 pbody)) _ (by conv => (lhs; whnf))
noncomputable def bo216 : List Stmt := pick (fbod (nst 33 pbody)) _ (by conv => (lhs; whnf))
noncomputable def sc216 : Scope := pick (fsco (nst 33 pbody)) _ (by conv => (lhs; whnf))
noncomputable def pa223 : Arguments := pick (fpar (nst 34 pbody)) _ (by conv => (lhs; whnf))
noncomputable def bo223 : List Stmt := pick (fbod (nst 34 pbody)) _ (by conv => (lhs; whnf))
noncomputable def sc223 : Scope := pick (fsco (nst 34 pbody)) _ (by conv => (lhs; whnf))
noncomputable def pa230 : Arguments := pick (fpar (nst 35 pbody)) _ (by conv => (lhs; whnf))
noncomputable def bo230 : List Stmt := pick (fbod (nst 35 pbody)) _ (by conv => (lhs; whnf))
noncomputable def sc230 : Scope := pick (fsco (nst 35 pbody)) _ (by conv => (lhs; whnf))
noncomputable def pa237 : Arguments := pick (fpar (nst 36 pbody)) _ (by conv => (lhs; whnf))
noncomputable def bo237 : List Stmt := pick (fbod (nst 36 pbody)) _ (by conv => (lhs; whnf))
noncomputable def sc237 : Scope := pick (fsco (nst 36 pbody)) _ (by conv => (lhs; whnf))
noncomputable def pa244 : Arguments := pick (fpar (nst 37 pbody)) _ (by conv => (lhs; whnf))
noncomputable def bo244 : List Stmt := pick (fbod (nst 37 pbody)) _ (by conv => (lhs; whnf))
noncomputable def sc244 : Scope := pick (fsco (nst 37 pbody)) _ (by conv => (lhs; whnf))
noncomputable def pa251 : Arguments := pick (fpar (nst 38 pbody)) _ (by conv => (lhs; whnf))
noncomputable def bo251 : List Stmt := pick (fbod (nst 38 pbody)) _ (by conv => (lhs; whnf))
noncomputable def sc251 : Scope := pick (fsco (nst 38 pbody)) _ (by conv => (lhs; whnf))
noncomputable def pa258 : Arguments := pick (fpar (nst 39 pbody)) _ (by conv => (lhs; whnf))
noncomputable def bo258 : List Stmt := pick (fbod (nst 39 pbody)) _ (by conv => (lhs; whnf))
noncomputable def sc258 : Scope := pick (fsco (nst 39 pbody)) _ (by conv => (lhs; whnf))
noncomputable def pa265 : Arguments := pick (fpar (nst 40 pbody)) _ (by conv => (lhs; whnf))
noncomputable def bo265 : List Stmt := pick (fbod (nst 40 pbody)) _ (by conv => (lhs; whnf))
noncomputable def sc265 : Scope := pick (fsco (nst 40 pbody)) _ (by conv => (lhs; whnf))
noncomputable def pa272 : Arguments := pick (fpar (nst 41 pbody)) _ (by conv => (lhs; whnf))
noncomputable def bo272 : List Stmt := pick (fbod (nst 41 pbody)) _ (by conv => (lhs; whnf))
noncomputable def sc272 : Scope := pick (fsco (nst 41 pbody)) _ (by conv => (lhs; whnf))
noncomputable def pa279 : Arguments := pick (fpar (nst 42 pbody)) _ (by conv => (lhs; whnf))
noncomputable def bo279 : List Stmt := pick (fbod (nst 42 pbody)) _ (by conv => (lhs; whnf))
noncomputable def sc279 : Scope := pick (fsco (nst 42 pbody)) _ (by conv => (lhs; whnf))
noncomputable def pa286 : Arguments := pick (fpar (nst 43 pbody)) _ (by conv => (lhs; whnf))
noncomputable def bo286 : List Stmt := pick (fbod (nst 43 pbody)) _ (by conv => (lhs; whnf))
noncomputable def sc286 : Scope := pick (fsco (nst 43 pbody)) _ (by conv => (lhs; whnf))
noncomputable def pa293 : Arguments := pick (fpar (nst 44 pbody)) _ (by conv => (lhs; whnf))
noncomputable def bo293 : List Stmt := pick (fbod (nst 44 pbody)) _ (by conv => (lhs; whnf))
noncomputable def sc293 : Scope := pick (fsco (nst 44 pbody)) _ (by conv => (lhs; whnf))
noncomputable def pa300 : Arguments := pick (fpar (nst 47 pbody)) _ (by conv => (lhs; whnf))
noncomputable def bo300 : List Stmt := pick (fbod (nst 47 pbody)) _ (by conv => (lhs; whnf))
noncomputable def sc300 : Scope := pick (fsco (nst 47 pbody)) _ (by conv => (lhs; whnf))
noncomputable def pa308 : Arguments := pick (fpar (nst 49 pbody)) _ (by conv => (lhs; whnf))
noncomputable def bo308 : List Stmt := pick (fbod (nst 49 pbody)) _ (by conv => (lhs; whnf))
noncomputable def sc308 : Scope := pick (fsco (nst 49 pbody)) _ (by conv => (lhs; whnf))
noncomputable def pa315 : Arguments := pick (fpar (nst 50 pbody)) _ (by conv => (lhs; whnf))
noncomputable def bo315 : List Stmt := pick (fbod (nst 50 pbody)) _ (by conv => (lhs; whnf))
noncomputable def sc315 : Scope := pick (fsco (nst 50 pbody)) _ (by conv => (lhs; whnf))
noncomputable def pa322 : Arguments := pick (fpar (nst 51 pbody)) _ (by conv => (lhs; whnf))
noncomputable def bo322 : List Stmt := pick (fbod (nst 51 pbody)) _ (by conv => (lhs; whnf))
noncomputable def sc322 : Scope := pick (fsco (nst 51 pbody)) _ (by conv => (lhs; whnf))
noncomputable def pa329 : Arguments := pick (fpar (nst 52 pbody)) _ (by conv => (lhs; whnf))
noncomputable def bo329 : List Stmt := pick (fbod (nst 52 pbody)) _ (by conv => (lhs; whnf))
noncomputable def sc329 : Scope := pick (fsco (nst 52 pbody)) _ (by conv => (lhs; whnf))
noncomputable def pa334 : Arguments := pick (fpar (nst 53 pbody)) _ (by conv => (lhs; whnf))
noncomputable def bo334 : List Stmt := pick (fbod (nst 53 pbody)) _ (by conv => (lhs; whnf))
noncomputable def sc334 : Scope := pick (fsco (nst 53 pbody)) _ (by conv => (lhs; whnf))
noncomputable def hd.view_39 : Program := (fun (x y : Program) (_ : x = y) => y) ({ (PySem.Challenge.rw_nz0190_01.row.toRowW.1) with main := { (PySem.Challenge.rw_nz0190_01.row.toRowW.1).main with body := ce1 :: ce2 :: ce4 :: ce5 :: ce6 :: ce7 :: ce8 :: ce9 :: ce10 :: ce11 :: ce12 :: ce13 :: ce14 :: ce15 :: ce16 :: ce17 :: ce18 :: ce19 :: ce20 :: ce21 :: ce22 :: ce24 :: ce25 :: ce26 :: ce27 :: ce28 :: ce29 :: ce30 :: ce31 :: ce32 :: ce33 :: ce34 :: ce35 :: ce36 :: ce37 :: ce38 :: ce39 :: ce40 :: ce41 :: ce42 :: ce43 :: ce44 :: ce46 :: ce47 :: ce48 :: ce49 :: ce50 :: ce51 :: ce52 :: ce53 :: [] } } : Program) _ (by
  delta ce1 ce2 ce4 ce5 ce6 ce7 ce8 ce9 ce10 ce11 ce12 ce13 ce14 ce15 ce16 ce17 ce18 ce19 ce20 ce21 ce22 ce24 ce25 ce26 ce27 ce28 ce29 ce30 ce31 ce32 ce33 ce34 ce35 ce36 ce37 ce38 ce39 ce40 ce41 ce42 ce43 ce44 ce46 ce47 ce48 ce49 ce50 ce51 ce52 ce53
  delta pick PySem.W.RowW.prog
  exact rfl)
noncomputable def hd.heap_39 : Params → Frag := fun P => (fun (x y : List (Nat × Obj)) (_ : x = y) => y) (
  @List.cons (Nat × Obj) (@Prod.mk Nat Obj (nat_lit 2) (PySem.Obj.mk PySem.Value.none (@none Nat) (PySem.Data.dict (List.toArray [(PySem.DictEntry.mk (kh P (so "type.__subclasses__.Exception.0")) (PySem.Value.str (so "type.__subclasses__.Exception.0") (214 : Nat)) (PySem.Value.int (31 : Int) (0 : Nat))), (PySem.DictEntry.mk (kh P (so "type.__subclasses__.Exception.n")) (PySem.Value.str (so "type.__subclasses__.Exception.n") (215 : Nat)) (PySem.Value.int (1 : Int) (0 : Nat)))]) (2 : Nat)) (List.toArray []))) <|
  @List.cons (Nat × Obj) (@Prod.mk Nat Obj (nat_lit 3) (PySem.Obj.mk (PySem.Value.type "dict") (@none Nat) (PySem.Data.dict (List.toArray ((PySem.DictEntry.mk (kh P (so "__name__")) (PySem.Value.str (so "__name__") (165 : Nat)) (PySem.Value.str (so "law_nz0190_01") (628 : Nat))) :: (PySem.DictEntry.mk (kh P (so "__doc__")) (PySem.Value.str (so "__doc__") (166 : Nat)) PySem.Value.none) :: (PySem.DictEntry.mk (kh P (so "__package__")) (PySem.Value.str (so "__package__") (167 : Nat)) PySem.Value.none) :: (PySem.DictEntry.mk (kh P (so "__loader__")) (PySem.Value.str (so "__loader__") (168 : Nat)) (PySem.Value.builtin "__main__.__loader__#opaque")) :: (PySem.DictEntry.mk (kh P (so "__spec__")) (PySem.Value.str (so "__spec__") (169 : Nat)) PySem.Value.none) :: (PySem.DictEntry.mk (kh P (so "__annotations__")) (PySem.Value.str (so "__annotations__") (170 : Nat)) (PySem.Value.ref (6 : Nat))) :: (PySem.DictEntry.mk (kh P (so "__builtins__")) (PySem.Value.str (so "__builtins__") (171 : Nat)) (PySem.Value.ref (4 : Nat))) :: (PySem.DictEntry.mk (kh P (so "__file__")) (PySem.Value.str (so "__file__") (173 : Nat)) (PySem.Value.str (so "/claim/cut.py") (172 : Nat))) :: (PySem.DictEntry.mk (kh P (so "__cached__")) (PySem.Value.str (so "__cached__") (174 : Nat)) PySem.Value.none) :: (PySem.DictEntry.mk (kh P (so "PerlError")) (PySem.Value.str (so "PerlError") (217 : Nat)) (PySem.Value.ref (31 : Nat))) :: (PySem.DictEntry.mk (kh P (so "SyntaxDie")) (PySem.Value.str (so "SyntaxDie") (243 : Nat)) (PySem.Value.ref (51 : Nat))) :: (PySem.DictEntry.mk (kh P (so "CLOSERS")) (PySem.Value.str (so "CLOSERS") (258 : Nat)) (PySem.Value.ref (54 : Nat))) :: (PySem.DictEntry.mk (kh P (so "SHORT_ESCAPES")) (PySem.Value.str (so "SHORT_ESCAPES") (280 : Nat)) (PySem.Value.ref (55 : Nat))) :: (PySem.DictEntry.mk (kh P (so "CODE_FIGURES")) (PySem.Value.str (so "CODE_FIGURES") (282 : Nat)) (PySem.Value.str (so "0123456789abcdef") (281 : Nat))) :: (PySem.DictEntry.mk (kh P (so "TOP_CODE")) (PySem.Value.str (so "TOP_CODE") (284 : Nat)) (PySem.Value.int (1114111 : Int) (283 : Nat))) :: (PySem.DictEntry.mk (kh P (so "closer_of")) (PySem.Value.str (so "closer_of") (291 : Nat)) (PySem.Value.ref (62 : Nat))) :: (PySem.DictEntry.mk (kh P (so "line_of_place")) (PySem.Value.str (so "line_of_place") (299 : Nat)) (PySem.Value.ref (69 : Nat))) :: (PySem.DictEntry.mk (kh P (so "delimited")) (PySem.Value.str (so "delimited") (312 : Nat)) (PySem.Value.ref (76 : Nat))) :: (PySem.DictEntry.mk (kh P (so "unguarded")) (PySem.Value.str (so "unguarded") (325 : Nat)) (PySem.Value.ref (83 : Nat))) :: (PySem.DictEntry.mk (kh P (so "read_q")) (PySem.Value.str (so "read_q") (333 : Nat)) (PySem.Value.ref (90 : Nat))) :: (PySem.DictEntry.mk (kh P (so "digits_value")) (PySem.Value.str (so "digits_value") (346 : Nat)) (PySem.Value.ref (97 : Nat))) :: (PySem.DictEntry.mk (kh P (so "coded_sign")) (PySem.Value.str (so "coded_sign") (353 : Nat)) (PySem.Value.ref (104 : Nat))) :: (PySem.DictEntry.mk (kh P (so "braced_code")) (PySem.Value.str (so "braced_code") (365 : Nat)) (PySem.Value.ref (111 : Nat))) :: (PySem.DictEntry.mk (kh P (so "escape_at")) (PySem.Value.str (so "escape_at") (376 : Nat)) (PySem.Value.ref (118 : Nat))) :: (PySem.DictEntry.mk (kh P (so "great_letter")) (PySem.Value.str (so "great_letter") (383 : Nat)) (PySem.Value.ref (125 : Nat))) :: (PySem.DictEntry.mk (kh P (so "small_letter")) (PySem.Value.str (so "small_letter") (390 : Nat)) (PySem.Value.ref (132 : Nat))) :: (PySem.DictEntry.mk (kh P (so "is_plain_word_sign")) (PySem.Value.str (so "is_plain_word_sign") (397 : Nat)) (PySem.Value.ref (139 : Nat))) :: (PySem.DictEntry.mk (kh P (so "cased_text")) (PySem.Value.str (so "cased_text") (407 : Nat)) (PySem.Value.ref (146 : Nat))) :: (PySem.DictEntry.mk (kh P (so "here_end")) (PySem.Value.str (so "here_end") (419 : Nat)) (PySem.Value.ref (153 : Nat))) :: (PySem.DictEntry.mk (kh P (so "here_body")) (PySem.Value.str (so "here_body") (434 : Nat)) (PySem.Value.ref (160 : Nat))) :: (PySem.DictEntry.mk (kh P (so "SHORT_CASES")) (PySem.Value.str (so "SHORT_CASES") (438 : Nat)) (PySem.Value.str (so "ul") (437 : Nat))) :: (PySem.DictEntry.mk (kh P (so "PUNCTUATION")) (PySem.Value.str (so "PUNCTUATION") (440 : Nat)) (PySem.Value.str (so "&,;!@/\"") (439 : Nat))) :: (PySem.DictEntry.mk (kh P (so "is_name_start")) (PySem.Value.str (so "is_name_start") (447 : Nat)) (PySem.Value.ref (167 : Nat))) :: (PySem.DictEntry.mk (kh P (so "variable_name_end")) (PySem.Value.str (so "variable_name_end") (456 : Nat)) (PySem.Value.ref (174 : Nat))) :: (PySem.DictEntry.mk (kh P (so "quote_skip")) (PySem.Value.str (so "quote_skip") (465 : Nat)) (PySem.Value.ref (181 : Nat))) :: (PySem.DictEntry.mk (kh P (so "subscript_end")) (PySem.Value.str (so "subscript_end") (478 : Nat)) (PySem.Value.ref (188 : Nat))) :: (PySem.DictEntry.mk (kh P (so "digits_only")) (PySem.Value.str (so "digits_only") (486 : Nat)) (PySem.Value.ref (195 : Nat))) :: (PySem.DictEntry.mk (kh P (so "is_pattern_part")) (PySem.Value.str (so "is_pattern_part") (497 : Nat)) (PySem.Value.ref (202 : Nat))) :: (PySem.DictEntry.mk (kh P (so "one_subscript")) (PySem.Value.str (so "one_subscript") (507 : Nat)) (PySem.Value.ref (209 : Nat))) :: (PySem.DictEntry.mk (kh P (so "all_subscripts")) (PySem.Value.str (so "all_subscripts") (519 : Nat)) (PySem.Value.ref (216 : Nat))) :: (PySem.DictEntry.mk (kh P (so "base_end")) (PySem.Value.str (so "base_end") (529 : Nat)) (PySem.Value.ref (223 : Nat))) :: (PySem.DictEntry.mk (kh P (so "scalar_end")) (PySem.Value.str (so "scalar_end") (540 : Nat)) (PySem.Value.ref (230 : Nat))) :: (PySem.DictEntry.mk (kh P (so "array_end")) (PySem.Value.str (so "array_end") (550 : Nat)) (PySem.Value.ref (237 : Nat))) :: (PySem.DictEntry.mk (kh P (so "add_part")) (PySem.Value.str (so "add_part") (559 : Nat)) (PySem.Value.ref (244 : Nat))) :: (PySem.DictEntry.mk (kh P (so "close_case")) (PySem.Value.str (so "close_case") (568 : Nat)) (PySem.Value.ref (251 : Nat))) :: (PySem.DictEntry.mk (kh P (so "end_case")) (PySem.Value.str (so "end_case") (575 : Nat)) (PySem.Value.ref (258 : Nat))) :: (PySem.DictEntry.mk (kh P (so "begin_case")) (PySem.Value.str (so "begin_case") (583 : Nat)) (PySem.Value.ref (265 : Nat))) :: (PySem.DictEntry.mk (kh P (so "take_case")) (PySem.Value.str (so "take_case") (594 : Nat)) (PySem.Value.ref (272 : Nat))) :: (PySem.DictEntry.mk (kh P (so "take_piece")) (PySem.Value.str (so "take_piece") (607 : Nat)) (PySem.Value.ref (279 : Nat))) :: (PySem.DictEntry.mk (kh P (so "parts_of")) (PySem.Value.str (so "parts_of") (618 : Nat)) (PySem.Value.ref (286 : Nat))) :: (PySem.DictEntry.mk (kh P (so "plain_qq")) (PySem.Value.str (so "plain_qq") (627 : Nat)) (PySem.Value.ref (293 : Nat))) :: (PySem.DictEntry.mk (kh P (so "_law_signs")) (PySem.Value.str (so "_law_signs") (631 : Nat)) (PySem.Value.str (so "aZ_ (){}[]<>'\"/|\\\\$@\n\t\x00\x1b\x7féā☺09~n") (630 : Nat))) :: (PySem.DictEntry.mk (kh P (so "_law_ends")) (PySem.Value.str (so "_law_ends") (637 : Nat)) (PySem.Value.ref (300 : Nat))) :: (PySem.DictEntry.mk (kh P (so "_law_named")) (PySem.Value.str (so "_law_named") (656 : Nat)) (PySem.Value.ref (301 : Nat))) :: (PySem.DictEntry.mk (kh P (so "_law_take")) (PySem.Value.str (so "_law_take") (665 : Nat)) (PySem.Value.ref (308 : Nat))) :: (PySem.DictEntry.mk (kh P (so "_law_based")) (PySem.Value.str (so "_law_based") (674 : Nat)) (PySem.Value.ref (315 : Nat))) :: (PySem.DictEntry.mk (kh P (so "_law_in_q")) (PySem.Value.str (so "_law_in_q") (685 : Nat)) (PySem.Value.ref (322 : Nat))) :: (PySem.DictEntry.mk (kh P (so "_law_in_qq")) (PySem.Value.str (so "_law_in_qq") (698 : Nat)) (PySem.Value.ref (329 : Nat))) :: (PySem.DictEntry.mk (kh P (so "law")) (PySem.Value.str (so "law") (704 : Nat)) (PySem.Value.ref (334 : Nat))) :: [])) (59 : Nat)) (List.toArray []))) <|
  @List.cons (Nat × Obj) (@Prod.mk Nat Obj (nat_lit 15) (PySem.Obj.mk (PySem.Value.type "tuple") (@none Nat) (PySem.Data.seq (List.toArray [(PySem.Value.type "Exception")]) (0 : Nat)) (List.toArray []))) <|
  @List.cons (Nat × Obj) (@Prod.mk Nat Obj (nat_lit 22) (PySem.Obj.mk (PySem.Value.type "tuple") (@none Nat) (PySem.Data.seq (List.toArray []) (0 : Nat)) (List.toArray []))) <|
  @List.cons (Nat × Obj) (@Prod.mk Nat Obj (nat_lit 24) (PySem.Obj.mk (PySem.Value.type "tuple") (@none Nat) (PySem.Data.seq (List.toArray [(PySem.Value.str (so "self") (204 : Nat)), (PySem.Value.str (so "text") (205 : Nat))]) (0 : Nat)) (List.toArray []))) <|
  @List.cons (Nat × Obj) (@Prod.mk Nat Obj (nat_lit 25) (PySem.Obj.mk (PySem.Value.type "tuple") (@none Nat) (PySem.Data.seq (List.toArray []) (0 : Nat)) (List.toArray []))) <|
  @List.cons (Nat × Obj) (@Prod.mk Nat Obj (nat_lit 27) (PySem.Obj.mk (PySem.Value.type "code") (@none Nat) (PySem.Data.fields (List.toArray [(PySem.Value.str (so "__init__") (201 : Nat)), (PySem.Value.str (so "PerlError.__init__") (202 : Nat)), (PySem.Value.str (so "/claim/cut.py") (203 : Nat)), (PySem.Value.int (4 : Int) (0 : Nat)), (PySem.Value.int (2 : Int) (0 : Nat)), (PySem.Value.int (0 : Int) (0 : Nat)), (PySem.Value.int (0 : Int) (0 : Nat)), (PySem.Value.int (3 : Int) (0 : Nat)), (PySem.Value.ref (22 : Nat)), (PySem.Value.bool Bool.true), (PySem.Value.int (181 : Int) (0 : Nat)), (PySem.Value.ref (23 : Nat)), PySem.Value.none, (PySem.Value.ref (24 : Nat)), (PySem.Value.ref (25 : Nat)), (PySem.Value.ref (26 : Nat)), (PySem.Value.int (206 : Int) (0 : Nat)), (PySem.Value.int (4 : Int) (0 : Nat)), (PySem.Value.str (so "/claim/cut.py") (207 : Nat))])) (List.toArray []))) <|
  @List.cons (Nat × Obj) (@Prod.mk Nat Obj (nat_lit 28) (PySem.Obj.mk (PySem.Value.type "function") (@none Nat) (PySem.Data.func (PySem.FuncData.mk (so "__init__") (so "PerlError.__init__") pa28 (PySem.FuncBody.stmts bo28) sc28 (3 : Nat) (@List.nil (PySem.Str × Nat)) PySem.Value.none PySem.Value.none PySem.Value.none (PySem.Value.str (so "perlcore.errors") (187 : Nat)) (@none Nat) (PySem.Value.ref (27 : Nat)) PySem.Value.none (0 : Nat))) (List.toArray []))) <|
  @List.cons (Nat × Obj) (@Prod.mk Nat Obj (nat_lit 29) (PySem.Obj.mk (PySem.Value.type "tuple") (@none Nat) (PySem.Data.seq (List.toArray [(PySem.Value.str (so "text") (209 : Nat))]) (0 : Nat)) (List.toArray []))) <|
  @List.cons (Nat × Obj) (@Prod.mk Nat Obj (nat_lit 30) (PySem.Obj.mk (PySem.Value.type "dict") (@none Nat) (PySem.Data.dict (List.toArray [(PySem.DictEntry.mk (kh P (so "__module__")) (PySem.Value.str (so "__module__") (196 : Nat)) (PySem.Value.str (so "perlcore.errors") (187 : Nat))), (PySem.DictEntry.mk (kh P (so "__firstlineno__")) (PySem.Value.str (so "__firstlineno__") (200 : Nat)) (PySem.Value.int (2 : Int) (199 : Nat))), (PySem.DictEntry.mk (kh P (so "__init__")) (PySem.Value.str (so "__init__") (208 : Nat)) (PySem.Value.ref (28 : Nat))), (PySem.DictEntry.mk (kh P (so "__static_attributes__")) (PySem.Value.str (so "__static_attributes__") (210 : Nat)) (PySem.Value.ref (29 : Nat))), (PySem.DictEntry.mk (kh P (so "__weakref__")) (PySem.Value.str (so "__weakref__") (212 : Nat)) (PySem.Value.ref (32 : Nat))), (PySem.DictEntry.mk (kh P (so "__doc__")) (PySem.Value.str (so "__doc__") (213 : Nat)) PySem.Value.none)]) (3 : Nat)) (List.toArray []))) <|
  @List.cons (Nat × Obj) (@Prod.mk Nat Obj (nat_lit 31) (PySem.Obj.mk (PySem.Value.type "type") (@none Nat) (PySem.Data.cls (PySem.ClassData.mk (so "PerlError") [(PySem.Value.type "Exception")] [(PySem.Value.ref (31 : Nat)), (PySem.Value.type "Exception"), (PySem.Value.type "BaseException"), (PySem.Value.type "object")] (30 : Nat) (so "PerlError") Bool.true [] [(PySem.Value.ref (51 : Nat))] Bool.false (@none Bool) Bool.false)) (List.toArray [(some (PySem.Value.ref (15 : Nat))), none, (some (PySem.Value.str (so "PerlError") (189 : Nat))), (some (PySem.Value.str (so "PerlError") (197 : Nat))), (some (PySem.Value.builtin "Exception.__new__")), (some (PySem.Value.bool Bool.true))]))) <|
  @List.cons (Nat × Obj) (@Prod.mk Nat Obj (nat_lit 32) (PySem.Obj.mk (PySem.Value.type "getset_descriptor") (@none Nat) (PySem.Data.fields (List.toArray [(PySem.Value.str (so "__weakref__") (211 : Nat)), (PySem.Value.ref (31 : Nat)), (PySem.Value.builtin "ExceptionGroup.__weakref__"), PySem.Value.none])) (List.toArray []))) <|
  @List.cons (Nat × Obj) (@Prod.mk Nat Obj (nat_lit 35) (PySem.Obj.mk (PySem.Value.type "tuple") (@none Nat) (PySem.Data.seq (List.toArray [(PySem.Value.ref (31 : Nat))]) (0 : Nat)) (List.toArray []))) <|
  @List.cons (Nat × Obj) (@Prod.mk Nat Obj (nat_lit 42) (PySem.Obj.mk (PySem.Value.type "tuple") (@none Nat) (PySem.Data.seq (List.toArray []) (0 : Nat)) (List.toArray []))) <|
  @List.cons (Nat × Obj) (@Prod.mk Nat Obj (nat_lit 44) (PySem.Obj.mk (PySem.Value.type "tuple") (@none Nat) (PySem.Data.seq (List.toArray [(PySem.Value.str (so "self") (233 : Nat)), (PySem.Value.str (so "text") (234 : Nat)), (PySem.Value.str (so "line") (235 : Nat))]) (0 : Nat)) (List.toArray []))) <|
  @List.cons (Nat × Obj) (@Prod.mk Nat Obj (nat_lit 45) (PySem.Obj.mk (PySem.Value.type "tuple") (@none Nat) (PySem.Data.seq (List.toArray []) (0 : Nat)) (List.toArray []))) <|
  @List.cons (Nat × Obj) (@Prod.mk Nat Obj (nat_lit 47) (PySem.Obj.mk (PySem.Value.type "code") (@none Nat) (PySem.Data.fields (List.toArray [(PySem.Value.str (so "__init__") (230 : Nat)), (PySem.Value.str (so "SyntaxDie.__init__") (231 : Nat)), (PySem.Value.str (so "/claim/cut.py") (232 : Nat)), (PySem.Value.int (9 : Int) (0 : Nat)), (PySem.Value.int (3 : Int) (0 : Nat)), (PySem.Value.int (0 : Int) (0 : Nat)), (PySem.Value.int (0 : Int) (0 : Nat)), (PySem.Value.int (3 : Int) (0 : Nat)), (PySem.Value.ref (42 : Nat)), (PySem.Value.bool Bool.true), (PySem.Value.int (181 : Int) (0 : Nat)), (PySem.Value.ref (43 : Nat)), PySem.Value.none, (PySem.Value.ref (44 : Nat)), (PySem.Value.ref (45 : Nat)), (PySem.Value.ref (46 : Nat)), (PySem.Value.int (236 : Int) (0 : Nat)), (PySem.Value.int (9 : Int) (0 : Nat)), (PySem.Value.str (so "/claim/cut.py") (237 : Nat))])) (List.toArray []))) <|
  @List.cons (Nat × Obj) (@Prod.mk Nat Obj (nat_lit 48) (PySem.Obj.mk (PySem.Value.type "function") (@none Nat) (PySem.Data.func (PySem.FuncData.mk (so "__init__") (so "SyntaxDie.__init__") pa48 (PySem.FuncBody.stmts bo48) sc48 (3 : Nat) (@List.nil (PySem.Str × Nat)) PySem.Value.none PySem.Value.none PySem.Value.none (PySem.Value.str (so "perlcore.errors") (187 : Nat)) (@none Nat) (PySem.Value.ref (47 : Nat)) PySem.Value.none (0 : Nat))) (List.toArray []))) <|
  @List.cons (Nat × Obj) (@Prod.mk Nat Obj (nat_lit 49) (PySem.Obj.mk (PySem.Value.type "tuple") (@none Nat) (PySem.Data.seq (List.toArray [(PySem.Value.str (so "line") (239 : Nat))]) (0 : Nat)) (List.toArray []))) <|
  @List.cons (Nat × Obj) (@Prod.mk Nat Obj (nat_lit 50) (PySem.Obj.mk (PySem.Value.type "dict") (@none Nat) (PySem.Data.dict (List.toArray [(PySem.DictEntry.mk (kh P (so "__module__")) (PySem.Value.str (so "__module__") (225 : Nat)) (PySem.Value.str (so "perlcore.errors") (187 : Nat))), (PySem.DictEntry.mk (kh P (so "__firstlineno__")) (PySem.Value.str (so "__firstlineno__") (229 : Nat)) (PySem.Value.int (7 : Int) (228 : Nat))), (PySem.DictEntry.mk (kh P (so "__init__")) (PySem.Value.str (so "__init__") (238 : Nat)) (PySem.Value.ref (48 : Nat))), (PySem.DictEntry.mk (kh P (so "__static_attributes__")) (PySem.Value.str (so "__static_attributes__") (240 : Nat)) (PySem.Value.ref (49 : Nat))), (PySem.DictEntry.mk (kh P (so "__doc__")) (PySem.Value.str (so "__doc__") (241 : Nat)) PySem.Value.none)]) (2 : Nat)) (List.toArray []))) <|
  @List.cons (Nat × Obj) (@Prod.mk Nat Obj (nat_lit 51) (PySem.Obj.mk (PySem.Value.type "type") (@none Nat) (PySem.Data.cls (PySem.ClassData.mk (so "SyntaxDie") [(PySem.Value.ref (31 : Nat))] [(PySem.Value.ref (51 : Nat)), (PySem.Value.ref (31 : Nat)), (PySem.Value.type "Exception"), (PySem.Value.type "BaseException"), (PySem.Value.type "object")] (50 : Nat) (so "SyntaxDie") Bool.true [] [] Bool.false (@none Bool) Bool.false)) (List.toArray [(some (PySem.Value.ref (35 : Nat))), none, (some (PySem.Value.str (so "SyntaxDie") (218 : Nat))), (some (PySem.Value.str (so "SyntaxDie") (226 : Nat))), (some (PySem.Value.builtin "Exception.__new__")), (some (PySem.Value.bool Bool.true))]))) <|
  @List.cons (Nat × Obj) (@Prod.mk Nat Obj (nat_lit 54) (PySem.Obj.mk (PySem.Value.type "dict") (@none Nat) (PySem.Data.dict (List.toArray [(PySem.DictEntry.mk (kh P (so "(")) (PySem.Value.str (so "(") (246 : Nat)) (PySem.Value.str (so ")") (247 : Nat))), (PySem.DictEntry.mk (kh P (so "[")) (PySem.Value.str (so "[") (248 : Nat)) (PySem.Value.str (so "]") (249 : Nat))), (PySem.DictEntry.mk (kh P (so "{")) (PySem.Value.str (so "{") (250 : Nat)) (PySem.Value.str (so "}") (251 : Nat))), (PySem.DictEntry.mk (kh P (so "<")) (PySem.Value.str (so "<") (252 : Nat)) (PySem.Value.str (so ">") (253 : Nat)))]) (4 : Nat)) (List.toArray []))) <|
  @List.cons (Nat × Obj) (@Prod.mk Nat Obj (nat_lit 55) (PySem.Obj.mk (PySem.Value.type "dict") (@none Nat) (PySem.Data.dict (List.toArray [(PySem.DictEntry.mk (kh P (so "n")) (PySem.Value.str (so "n") (259 : Nat)) (PySem.Value.str (so "\n") (260 : Nat))), (PySem.DictEntry.mk (kh P (so "t")) (PySem.Value.str (so "t") (261 : Nat)) (PySem.Value.str (so "\t") (262 : Nat))), (PySem.DictEntry.mk (kh P (so "r")) (PySem.Value.str (so "r") (263 : Nat)) (PySem.Value.str (so "\x0d") (264 : Nat))), (PySem.DictEntry.mk (kh P (so "f")) (PySem.Value.str (so "f") (265 : Nat)) (PySem.Value.str (so "\x0c") (266 : Nat))), (PySem.DictEntry.mk (kh P (so "b")) (PySem.Value.str (so "b") (267 : Nat)) (PySem.Value.str (so "\x08") (268 : Nat))), (PySem.DictEntry.mk (kh P (so "a")) (PySem.Value.str (so "a") (269 : Nat)) (PySem.Value.str (so "\x07") (270 : Nat))), (PySem.DictEntry.mk (kh P (so "e")) (PySem.Value.str (so "e") (271 : Nat)) (PySem.Value.str (so "\x1b") (272 : Nat)))]) (7 : Nat)) (List.toArray []))) <|
  @List.cons (Nat × Obj) (@Prod.mk Nat Obj (nat_lit 56) (PySem.Obj.mk (PySem.Value.type "tuple") (@none Nat) (PySem.Data.seq (List.toArray []) (0 : Nat)) (List.toArray []))) <|
  @List.cons (Nat × Obj) (@Prod.mk Nat Obj (nat_lit 58) (PySem.Obj.mk (PySem.Value.type "tuple") (@none Nat) (PySem.Data.seq (List.toArray [(PySem.Value.str (so "opening") (288 : Nat))]) (0 : Nat)) (List.toArray []))) <|
  @List.cons (Nat × Obj) (@Prod.mk Nat Obj (nat_lit 59) (PySem.Obj.mk (PySem.Value.type "tuple") (@none Nat) (PySem.Data.seq (List.toArray []) (0 : Nat)) (List.toArray []))) <|
  @List.cons (Nat × Obj) (@Prod.mk Nat Obj (nat_lit 61) (PySem.Obj.mk (PySem.Value.type "code") (@none Nat) (PySem.Data.fields (List.toArray [(PySem.Value.str (so "closer_of") (285 : Nat)), (PySem.Value.str (so "closer_of") (286 : Nat)), (PySem.Value.str (so "/claim/cut.py") (287 : Nat)), (PySem.Value.int (17 : Int) (0 : Nat)), (PySem.Value.int (1 : Int) (0 : Nat)), (PySem.Value.int (0 : Int) (0 : Nat)), (PySem.Value.int (0 : Int) (0 : Nat)), (PySem.Value.int (3 : Int) (0 : Nat)), (PySem.Value.ref (56 : Nat)), (PySem.Value.bool Bool.true), (PySem.Value.int (181 : Int) (0 : Nat)), (PySem.Value.ref (57 : Nat)), PySem.Value.none, (PySem.Value.ref (58 : Nat)), (PySem.Value.ref (59 : Nat)), (PySem.Value.ref (60 : Nat)), (PySem.Value.int (289 : Int) (0 : Nat)), (PySem.Value.int (17 : Int) (0 : Nat)), (PySem.Value.str (so "/claim/cut.py") (290 : Nat))])) (List.toArray []))) <|
  @List.cons (Nat × Obj) (@Prod.mk Nat Obj (nat_lit 62) (PySem.Obj.mk (PySem.Value.type "function") (@none Nat) (PySem.Data.func (PySem.FuncData.mk (so "closer_of") (so "closer_of") pa62 (PySem.FuncBody.stmts bo62) sc62 (3 : Nat) (@List.nil (PySem.Str × Nat)) PySem.Value.none PySem.Value.none PySem.Value.none (PySem.Value.str (so "perlcore.quotes") (244 : Nat)) (@none Nat) (PySem.Value.ref (61 : Nat)) PySem.Value.none (0 : Nat))) (List.toArray []))) <|
  @List.cons (Nat × Obj) (@Prod.mk Nat Obj (nat_lit 63) (PySem.Obj.mk (PySem.Value.type "tuple") (@none Nat) (PySem.Data.seq (List.toArray []) (0 : Nat)) (List.toArray []))) <|
  @List.cons (Nat × Obj) (@Prod.mk Nat Obj (nat_lit 65) (PySem.Obj.mk (PySem.Value.type "tuple") (@none Nat) (PySem.Data.seq (List.toArray [(PySem.Value.str (so "text") (295 : Nat)), (PySem.Value.str (so "at") (296 : Nat))]) (0 : Nat)) (List.toArray []))) <|
  @List.cons (Nat × Obj) (@Prod.mk Nat Obj (nat_lit 66) (PySem.Obj.mk (PySem.Value.type "tuple") (@none Nat) (PySem.Data.seq (List.toArray []) (0 : Nat)) (List.toArray []))) <|
  @List.cons (Nat × Obj) (@Prod.mk Nat Obj (nat_lit 68) (PySem.Obj.mk (PySem.Value.type "code") (@none Nat) (PySem.Data.fields (List.toArray [(PySem.Value.str (so "line_of_place") (292 : Nat)), (PySem.Value.str (so "line_of_place") (293 : Nat)), (PySem.Value.str (so "/claim/cut.py") (294 : Nat)), (PySem.Value.int (19 : Int) (0 : Nat)), (PySem.Value.int (2 : Int) (0 : Nat)), (PySem.Value.int (0 : Int) (0 : Nat)), (PySem.Value.int (0 : Int) (0 : Nat)), (PySem.Value.int (3 : Int) (0 : Nat)), (PySem.Value.ref (63 : Nat)), (PySem.Value.bool Bool.true), (PySem.Value.int (181 : Int) (0 : Nat)), (PySem.Value.ref (64 : Nat)), PySem.Value.none, (PySem.Value.ref (65 : Nat)), (PySem.Value.ref (66 : Nat)), (PySem.Value.ref (67 : Nat)), (PySem.Value.int (297 : Int) (0 : Nat)), (PySem.Value.int (19 : Int) (0 : Nat)), (PySem.Value.str (so "/claim/cut.py") (298 : Nat))])) (List.toArray []))) <|
  @List.cons (Nat × Obj) (@Prod.mk Nat Obj (nat_lit 69) (PySem.Obj.mk (PySem.Value.type "function") (@none Nat) (PySem.Data.func (PySem.FuncData.mk (so "line_of_place") (so "line_of_place") pa69 (PySem.FuncBody.stmts bo69) sc69 (3 : Nat) (@List.nil (PySem.Str × Nat)) PySem.Value.none PySem.Value.none PySem.Value.none (PySem.Value.str (so "perlcore.quotes") (244 : Nat)) (@none Nat) (PySem.Value.ref (68 : Nat)) PySem.Value.none (0 : Nat))) (List.toArray []))) <|
  @List.cons (Nat × Obj) (@Prod.mk Nat Obj (nat_lit 70) (PySem.Obj.mk (PySem.Value.type "tuple") (@none Nat) (PySem.Data.seq (List.toArray []) (0 : Nat)) (List.toArray []))) <|
  @List.cons (Nat × Obj) (@Prod.mk Nat Obj (nat_lit 72) (PySem.Obj.mk (PySem.Value.type "tuple") (@none Nat) (PySem.Data.seq (List.toArray [(PySem.Value.str (so "text") (303 : Nat)), (PySem.Value.str (so "at") (304 : Nat)), (PySem.Value.str (so "opening") (305 : Nat)), (PySem.Value.str (so "closing") (306 : Nat)), (PySem.Value.str (so "depth") (307 : Nat)), (PySem.Value.str (so "end") (308 : Nat)), (PySem.Value.str (so "sign") (309 : Nat))]) (0 : Nat)) (List.toArray []))) <|
  @List.cons (Nat × Obj) (@Prod.mk Nat Obj (nat_lit 73) (PySem.Obj.mk (PySem.Value.type "tuple") (@none Nat) (PySem.Data.seq (List.toArray []) (0 : Nat)) (List.toArray []))) <|
  @List.cons (Nat × Obj) (@Prod.mk Nat Obj (nat_lit 75) (PySem.Obj.mk (PySem.Value.type "code") (@none Nat) (PySem.Data.fields (List.toArray [(PySem.Value.str (so "delimited") (300 : Nat)), (PySem.Value.str (so "delimited") (301 : Nat)), (PySem.Value.str (so "/claim/cut.py") (302 : Nat)), (PySem.Value.int (21 : Int) (0 : Nat)), (PySem.Value.int (2 : Int) (0 : Nat)), (PySem.Value.int (0 : Int) (0 : Nat)), (PySem.Value.int (0 : Int) (0 : Nat)), (PySem.Value.int (3 : Int) (0 : Nat)), (PySem.Value.ref (70 : Nat)), (PySem.Value.bool Bool.true), (PySem.Value.int (181 : Int) (0 : Nat)), (PySem.Value.ref (71 : Nat)), PySem.Value.none, (PySem.Value.ref (72 : Nat)), (PySem.Value.ref (73 : Nat)), (PySem.Value.ref (74 : Nat)), (PySem.Value.int (310 : Int) (0 : Nat)), (PySem.Value.int (21 : Int) (0 : Nat)), (PySem.Value.str (so "/claim/cut.py") (311 : Nat))])) (List.toArray []))) <|
  @List.cons (Nat × Obj) (@Prod.mk Nat Obj (nat_lit 76) (PySem.Obj.mk (PySem.Value.type "function") (@none Nat) (PySem.Data.func (PySem.FuncData.mk (so "delimited") (so "delimited") pa76 (PySem.FuncBody.stmts bo76) sc76 (3 : Nat) (@List.nil (PySem.Str × Nat)) PySem.Value.none PySem.Value.none PySem.Value.none (PySem.Value.str (so "perlcore.quotes") (244 : Nat)) (@none Nat) (PySem.Value.ref (75 : Nat)) PySem.Value.none (0 : Nat))) (List.toArray []))) <|
  @List.cons (Nat × Obj) (@Prod.mk Nat Obj (nat_lit 77) (PySem.Obj.mk (PySem.Value.type "tuple") (@none Nat) (PySem.Data.seq (List.toArray []) (0 : Nat)) (List.toArray []))) <|
  @List.cons (Nat × Obj) (@Prod.mk Nat Obj (nat_lit 79) (PySem.Obj.mk (PySem.Value.type "tuple") (@none Nat) (PySem.Data.seq (List.toArray [(PySem.Value.str (so "inner") (316 : Nat)), (PySem.Value.str (so "opening") (317 : Nat)), (PySem.Value.str (so "is_plain") (318 : Nat)), (PySem.Value.str (so "closing") (319 : Nat)), (PySem.Value.str (so "out") (320 : Nat)), (PySem.Value.str (so "at") (321 : Nat)), (PySem.Value.str (so "follower") (322 : Nat))]) (0 : Nat)) (List.toArray []))) <|
  @List.cons (Nat × Obj) (@Prod.mk Nat Obj (nat_lit 80) (PySem.Obj.mk (PySem.Value.type "tuple") (@none Nat) (PySem.Data.seq (List.toArray []) (0 : Nat)) (List.toArray []))) <|
  @List.cons (Nat × Obj) (@Prod.mk Nat Obj (nat_lit 82) (PySem.Obj.mk (PySem.Value.type "code") (@none Nat) (PySem.Data.fields (List.toArray [(PySem.Value.str (so "unguarded") (313 : Nat)), (PySem.Value.str (so "unguarded") (314 : Nat)), (PySem.Value.str (so "/claim/cut.py") (315 : Nat)), (PySem.Value.int (39 : Int) (0 : Nat)), (PySem.Value.int (3 : Int) (0 : Nat)), (PySem.Value.int (0 : Int) (0 : Nat)), (PySem.Value.int (0 : Int) (0 : Nat)), (PySem.Value.int (3 : Int) (0 : Nat)), (PySem.Value.ref (77 : Nat)), (PySem.Value.bool Bool.true), (PySem.Value.int (181 : Int) (0 : Nat)), (PySem.Value.ref (78 : Nat)), PySem.Value.none, (PySem.Value.ref (79 : Nat)), (PySem.Value.ref (80 : Nat)), (PySem.Value.ref (81 : Nat)), (PySem.Value.int (323 : Int) (0 : Nat)), (PySem.Value.int (39 : Int) (0 : Nat)), (PySem.Value.str (so "/claim/cut.py") (324 : Nat))])) (List.toArray []))) <|
  @List.cons (Nat × Obj) (@Prod.mk Nat Obj (nat_lit 83) (PySem.Obj.mk (PySem.Value.type "function") (@none Nat) (PySem.Data.func (PySem.FuncData.mk (so "unguarded") (so "unguarded") pa83 (PySem.FuncBody.stmts bo83) sc83 (3 : Nat) (@List.nil (PySem.Str × Nat)) PySem.Value.none PySem.Value.none PySem.Value.none (PySem.Value.str (so "perlcore.quotes") (244 : Nat)) (@none Nat) (PySem.Value.ref (82 : Nat)) PySem.Value.none (0 : Nat))) (List.toArray []))) <|
  @List.cons (Nat × Obj) (@Prod.mk Nat Obj (nat_lit 84) (PySem.Obj.mk (PySem.Value.type "tuple") (@none Nat) (PySem.Data.seq (List.toArray []) (0 : Nat)) (List.toArray []))) <|
  @List.cons (Nat × Obj) (@Prod.mk Nat Obj (nat_lit 86) (PySem.Obj.mk (PySem.Value.type "tuple") (@none Nat) (PySem.Data.seq (List.toArray [(PySem.Value.str (so "inner") (329 : Nat)), (PySem.Value.str (so "opening") (330 : Nat))]) (0 : Nat)) (List.toArray []))) <|
  @List.cons (Nat × Obj) (@Prod.mk Nat Obj (nat_lit 87) (PySem.Obj.mk (PySem.Value.type "tuple") (@none Nat) (PySem.Data.seq (List.toArray []) (0 : Nat)) (List.toArray []))) <|
  @List.cons (Nat × Obj) (@Prod.mk Nat Obj (nat_lit 89) (PySem.Obj.mk (PySem.Value.type "code") (@none Nat) (PySem.Data.fields (List.toArray [(PySem.Value.str (so "read_q") (326 : Nat)), (PySem.Value.str (so "read_q") (327 : Nat)), (PySem.Value.str (so "/claim/cut.py") (328 : Nat)), (PySem.Value.int (55 : Int) (0 : Nat)), (PySem.Value.int (2 : Int) (0 : Nat)), (PySem.Value.int (0 : Int) (0 : Nat)), (PySem.Value.int (0 : Int) (0 : Nat)), (PySem.Value.int (3 : Int) (0 : Nat)), (PySem.Value.ref (84 : Nat)), (PySem.Value.bool Bool.true), (PySem.Value.int (181 : Int) (0 : Nat)), (PySem.Value.ref (85 : Nat)), PySem.Value.none, (PySem.Value.ref (86 : Nat)), (PySem.Value.ref (87 : Nat)), (PySem.Value.ref (88 : Nat)), (PySem.Value.int (331 : Int) (0 : Nat)), (PySem.Value.int (55 : Int) (0 : Nat)), (PySem.Value.str (so "/claim/cut.py") (332 : Nat))])) (List.toArray []))) <|
  @List.cons (Nat × Obj) (@Prod.mk Nat Obj (nat_lit 90) (PySem.Obj.mk (PySem.Value.type "function") (@none Nat) (PySem.Data.func (PySem.FuncData.mk (so "read_q") (so "read_q") pa90 (PySem.FuncBody.stmts bo90) sc90 (3 : Nat) (@List.nil (PySem.Str × Nat)) PySem.Value.none PySem.Value.none PySem.Value.none (PySem.Value.str (so "perlcore.quotes") (244 : Nat)) (@none Nat) (PySem.Value.ref (89 : Nat)) PySem.Value.none (0 : Nat))) (List.toArray []))) <|
  @List.cons (Nat × Obj) (@Prod.mk Nat Obj (nat_lit 91) (PySem.Obj.mk (PySem.Value.type "tuple") (@none Nat) (PySem.Data.seq (List.toArray []) (0 : Nat)) (List.toArray []))) <|
  @List.cons (Nat × Obj) (@Prod.mk Nat Obj (nat_lit 93) (PySem.Obj.mk (PySem.Value.type "tuple") (@none Nat) (PySem.Data.seq (List.toArray [(PySem.Value.str (so "text") (337 : Nat)), (PySem.Value.str (so "at") (338 : Nat)), (PySem.Value.str (so "most") (339 : Nat)), (PySem.Value.str (so "base") (340 : Nat)), (PySem.Value.str (so "value") (341 : Nat)), (PySem.Value.str (so "end") (342 : Nat)), (PySem.Value.str (so "digit") (343 : Nat))]) (0 : Nat)) (List.toArray []))) <|
  @List.cons (Nat × Obj) (@Prod.mk Nat Obj (nat_lit 94) (PySem.Obj.mk (PySem.Value.type "tuple") (@none Nat) (PySem.Data.seq (List.toArray []) (0 : Nat)) (List.toArray []))) <|
  @List.cons (Nat × Obj) (@Prod.mk Nat Obj (nat_lit 96) (PySem.Obj.mk (PySem.Value.type "code") (@none Nat) (PySem.Data.fields (List.toArray [(PySem.Value.str (so "digits_value") (334 : Nat)), (PySem.Value.str (so "digits_value") (335 : Nat)), (PySem.Value.str (so "/claim/cut.py") (336 : Nat)), (PySem.Value.int (57 : Int) (0 : Nat)), (PySem.Value.int (4 : Int) (0 : Nat)), (PySem.Value.int (0 : Int) (0 : Nat)), (PySem.Value.int (0 : Int) (0 : Nat)), (PySem.Value.int (3 : Int) (0 : Nat)), (PySem.Value.ref (91 : Nat)), (PySem.Value.bool Bool.true), (PySem.Value.int (181 : Int) (0 : Nat)), (PySem.Value.ref (92 : Nat)), PySem.Value.none, (PySem.Value.ref (93 : Nat)), (PySem.Value.ref (94 : Nat)), (PySem.Value.ref (95 : Nat)), (PySem.Value.int (344 : Int) (0 : Nat)), (PySem.Value.int (57 : Int) (0 : Nat)), (PySem.Value.str (so "/claim/cut.py") (345 : Nat))])) (List.toArray []))) <|
  @List.cons (Nat × Obj) (@Prod.mk Nat Obj (nat_lit 97) (PySem.Obj.mk (PySem.Value.type "function") (@none Nat) (PySem.Data.func (PySem.FuncData.mk (so "digits_value") (so "digits_value") pa97 (PySem.FuncBody.stmts bo97) sc97 (3 : Nat) (@List.nil (PySem.Str × Nat)) PySem.Value.none PySem.Value.none PySem.Value.none (PySem.Value.str (so "perlcore.quotes") (244 : Nat)) (@none Nat) (PySem.Value.ref (96 : Nat)) PySem.Value.none (0 : Nat))) (List.toArray []))) <|
  @List.cons (Nat × Obj) (@Prod.mk Nat Obj (nat_lit 98) (PySem.Obj.mk (PySem.Value.type "tuple") (@none Nat) (PySem.Data.seq (List.toArray []) (0 : Nat)) (List.toArray []))) <|
  @List.cons (Nat × Obj) (@Prod.mk Nat Obj (nat_lit 100) (PySem.Obj.mk (PySem.Value.type "tuple") (@none Nat) (PySem.Data.seq (List.toArray [(PySem.Value.str (so "code") (350 : Nat))]) (0 : Nat)) (List.toArray []))) <|
  @List.cons (Nat × Obj) (@Prod.mk Nat Obj (nat_lit 101) (PySem.Obj.mk (PySem.Value.type "tuple") (@none Nat) (PySem.Data.seq (List.toArray []) (0 : Nat)) (List.toArray []))) <|
  @List.cons (Nat × Obj) (@Prod.mk Nat Obj (nat_lit 103) (PySem.Obj.mk (PySem.Value.type "code") (@none Nat) (PySem.Data.fields (List.toArray [(PySem.Value.str (so "coded_sign") (347 : Nat)), (PySem.Value.str (so "coded_sign") (348 : Nat)), (PySem.Value.str (so "/claim/cut.py") (349 : Nat)), (PySem.Value.int (67 : Int) (0 : Nat)), (PySem.Value.int (1 : Int) (0 : Nat)), (PySem.Value.int (0 : Int) (0 : Nat)), (PySem.Value.int (0 : Int) (0 : Nat)), (PySem.Value.int (3 : Int) (0 : Nat)), (PySem.Value.ref (98 : Nat)), (PySem.Value.bool Bool.true), (PySem.Value.int (181 : Int) (0 : Nat)), (PySem.Value.ref (99 : Nat)), PySem.Value.none, (PySem.Value.ref (100 : Nat)), (PySem.Value.ref (101 : Nat)), (PySem.Value.ref (102 : Nat)), (PySem.Value.int (351 : Int) (0 : Nat)), (PySem.Value.int (67 : Int) (0 : Nat)), (PySem.Value.str (so "/claim/cut.py") (352 : Nat))])) (List.toArray []))) <|
  @List.cons (Nat × Obj) (@Prod.mk Nat Obj (nat_lit 104) (PySem.Obj.mk (PySem.Value.type "function") (@none Nat) (PySem.Data.func (PySem.FuncData.mk (so "coded_sign") (so "coded_sign") pa104 (PySem.FuncBody.stmts bo104) sc104 (3 : Nat) (@List.nil (PySem.Str × Nat)) PySem.Value.none PySem.Value.none PySem.Value.none (PySem.Value.str (so "perlcore.quotes") (244 : Nat)) (@none Nat) (PySem.Value.ref (103 : Nat)) PySem.Value.none (0 : Nat))) (List.toArray []))) <|
  @List.cons (Nat × Obj) (@Prod.mk Nat Obj (nat_lit 105) (PySem.Obj.mk (PySem.Value.type "tuple") (@none Nat) (PySem.Data.seq (List.toArray []) (0 : Nat)) (List.toArray []))) <|
  @List.cons (Nat × Obj) (@Prod.mk Nat Obj (nat_lit 107) (PySem.Obj.mk (PySem.Value.type "tuple") (@none Nat) (PySem.Data.seq (List.toArray [(PySem.Value.str (so "text") (357 : Nat)), (PySem.Value.str (so "at") (358 : Nat)), (PySem.Value.str (so "base") (359 : Nat)), (PySem.Value.str (so "end") (360 : Nat)), (PySem.Value.str (so "value") (361 : Nat)), (PySem.Value.str (so "behind") (362 : Nat))]) (0 : Nat)) (List.toArray []))) <|
  @List.cons (Nat × Obj) (@Prod.mk Nat Obj (nat_lit 108) (PySem.Obj.mk (PySem.Value.type "tuple") (@none Nat) (PySem.Data.seq (List.toArray []) (0 : Nat)) (List.toArray []))) <|
  @List.cons (Nat × Obj) (@Prod.mk Nat Obj (nat_lit 110) (PySem.Obj.mk (PySem.Value.type "code") (@none Nat) (PySem.Data.fields (List.toArray [(PySem.Value.str (so "braced_code") (354 : Nat)), (PySem.Value.str (so "braced_code") (355 : Nat)), (PySem.Value.str (so "/claim/cut.py") (356 : Nat)), (PySem.Value.int (71 : Int) (0 : Nat)), (PySem.Value.int (3 : Int) (0 : Nat)), (PySem.Value.int (0 : Int) (0 : Nat)), (PySem.Value.int (0 : Int) (0 : Nat)), (PySem.Value.int (3 : Int) (0 : Nat)), (PySem.Value.ref (105 : Nat)), (PySem.Value.bool Bool.true), (PySem.Value.int (181 : Int) (0 : Nat)), (PySem.Value.ref (106 : Nat)), PySem.Value.none, (PySem.Value.ref (107 : Nat)), (PySem.Value.ref (108 : Nat)), (PySem.Value.ref (109 : Nat)), (PySem.Value.int (363 : Int) (0 : Nat)), (PySem.Value.int (71 : Int) (0 : Nat)), (PySem.Value.str (so "/claim/cut.py") (364 : Nat))])) (List.toArray []))) <|
  @List.cons (Nat × Obj) (@Prod.mk Nat Obj (nat_lit 111) (PySem.Obj.mk (PySem.Value.type "function") (@none Nat) (PySem.Data.func (PySem.FuncData.mk (so "braced_code") (so "braced_code") pa111 (PySem.FuncBody.stmts bo111) sc111 (3 : Nat) (@List.nil (PySem.Str × Nat)) PySem.Value.none PySem.Value.none PySem.Value.none (PySem.Value.str (so "perlcore.quotes") (244 : Nat)) (@none Nat) (PySem.Value.ref (110 : Nat)) PySem.Value.none (0 : Nat))) (List.toArray []))) <|
  @List.cons (Nat × Obj) (@Prod.mk Nat Obj (nat_lit 112) (PySem.Obj.mk (PySem.Value.type "tuple") (@none Nat) (PySem.Data.seq (List.toArray []) (0 : Nat)) (List.toArray []))) <|
  @List.cons (Nat × Obj) (@Prod.mk Nat Obj (nat_lit 114) (PySem.Obj.mk (PySem.Value.type "tuple") (@none Nat) (PySem.Data.seq (List.toArray [(PySem.Value.str (so "text") (369 : Nat)), (PySem.Value.str (so "at") (370 : Nat)), (PySem.Value.str (so "sign") (371 : Nat)), (PySem.Value.str (so "value") (372 : Nat)), (PySem.Value.str (so "end") (373 : Nat))]) (0 : Nat)) (List.toArray []))) <|
  @List.cons (Nat × Obj) (@Prod.mk Nat Obj (nat_lit 115) (PySem.Obj.mk (PySem.Value.type "tuple") (@none Nat) (PySem.Data.seq (List.toArray []) (0 : Nat)) (List.toArray []))) <|
  @List.cons (Nat × Obj) (@Prod.mk Nat Obj (nat_lit 117) (PySem.Obj.mk (PySem.Value.type "code") (@none Nat) (PySem.Data.fields (List.toArray [(PySem.Value.str (so "escape_at") (366 : Nat)), (PySem.Value.str (so "escape_at") (367 : Nat)), (PySem.Value.str (so "/claim/cut.py") (368 : Nat)), (PySem.Value.int (77 : Int) (0 : Nat)), (PySem.Value.int (2 : Int) (0 : Nat)), (PySem.Value.int (0 : Int) (0 : Nat)), (PySem.Value.int (0 : Int) (0 : Nat)), (PySem.Value.int (3 : Int) (0 : Nat)), (PySem.Value.ref (112 : Nat)), (PySem.Value.bool Bool.true), (PySem.Value.int (181 : Int) (0 : Nat)), (PySem.Value.ref (113 : Nat)), PySem.Value.none, (PySem.Value.ref (114 : Nat)), (PySem.Value.ref (115 : Nat)), (PySem.Value.ref (116 : Nat)), (PySem.Value.int (374 : Int) (0 : Nat)), (PySem.Value.int (77 : Int) (0 : Nat)), (PySem.Value.str (so "/claim/cut.py") (375 : Nat))])) (List.toArray []))) <|
  @List.cons (Nat × Obj) (@Prod.mk Nat Obj (nat_lit 118) (PySem.Obj.mk (PySem.Value.type "function") (@none Nat) (PySem.Data.func (PySem.FuncData.mk (so "escape_at") (so "escape_at") pa118 (PySem.FuncBody.stmts bo118) sc118 (3 : Nat) (@List.nil (PySem.Str × Nat)) PySem.Value.none PySem.Value.none PySem.Value.none (PySem.Value.str (so "perlcore.quotes") (244 : Nat)) (@none Nat) (PySem.Value.ref (117 : Nat)) PySem.Value.none (0 : Nat))) (List.toArray []))) <|
  @List.cons (Nat × Obj) (@Prod.mk Nat Obj (nat_lit 119) (PySem.Obj.mk (PySem.Value.type "tuple") (@none Nat) (PySem.Data.seq (List.toArray []) (0 : Nat)) (List.toArray []))) <|
  @List.cons (Nat × Obj) (@Prod.mk Nat Obj (nat_lit 121) (PySem.Obj.mk (PySem.Value.type "tuple") (@none Nat) (PySem.Data.seq (List.toArray [(PySem.Value.str (so "sign") (380 : Nat))]) (0 : Nat)) (List.toArray []))) <|
  @List.cons (Nat × Obj) (@Prod.mk Nat Obj (nat_lit 122) (PySem.Obj.mk (PySem.Value.type "tuple") (@none Nat) (PySem.Data.seq (List.toArray []) (0 : Nat)) (List.toArray []))) <|
  @List.cons (Nat × Obj) (@Prod.mk Nat Obj (nat_lit 124) (PySem.Obj.mk (PySem.Value.type "code") (@none Nat) (PySem.Data.fields (List.toArray [(PySem.Value.str (so "great_letter") (377 : Nat)), (PySem.Value.str (so "great_letter") (378 : Nat)), (PySem.Value.str (so "/claim/cut.py") (379 : Nat)), (PySem.Value.int (98 : Int) (0 : Nat)), (PySem.Value.int (1 : Int) (0 : Nat)), (PySem.Value.int (0 : Int) (0 : Nat)), (PySem.Value.int (0 : Int) (0 : Nat)), (PySem.Value.int (3 : Int) (0 : Nat)), (PySem.Value.ref (119 : Nat)), (PySem.Value.bool Bool.true), (PySem.Value.int (181 : Int) (0 : Nat)), (PySem.Value.ref (120 : Nat)), PySem.Value.none, (PySem.Value.ref (121 : Nat)), (PySem.Value.ref (122 : Nat)), (PySem.Value.ref (123 : Nat)), (PySem.Value.int (381 : Int) (0 : Nat)), (PySem.Value.int (98 : Int) (0 : Nat)), (PySem.Value.str (so "/claim/cut.py") (382 : Nat))])) (List.toArray []))) <|
  @List.cons (Nat × Obj) (@Prod.mk Nat Obj (nat_lit 125) (PySem.Obj.mk (PySem.Value.type "function") (@none Nat) (PySem.Data.func (PySem.FuncData.mk (so "great_letter") (so "great_letter") pa125 (PySem.FuncBody.stmts bo125) sc125 (3 : Nat) (@List.nil (PySem.Str × Nat)) PySem.Value.none PySem.Value.none PySem.Value.none (PySem.Value.str (so "perlcore.quotes") (244 : Nat)) (@none Nat) (PySem.Value.ref (124 : Nat)) PySem.Value.none (0 : Nat))) (List.toArray []))) <|
  @List.cons (Nat × Obj) (@Prod.mk Nat Obj (nat_lit 126) (PySem.Obj.mk (PySem.Value.type "tuple") (@none Nat) (PySem.Data.seq (List.toArray []) (0 : Nat)) (List.toArray []))) <|
  @List.cons (Nat × Obj) (@Prod.mk Nat Obj (nat_lit 128) (PySem.Obj.mk (PySem.Value.type "tuple") (@none Nat) (PySem.Data.seq (List.toArray [(PySem.Value.str (so "sign") (387 : Nat))]) (0 : Nat)) (List.toArray []))) <|
  @List.cons (Nat × Obj) (@Prod.mk Nat Obj (nat_lit 129) (PySem.Obj.mk (PySem.Value.type "tuple") (@none Nat) (PySem.Data.seq (List.toArray []) (0 : Nat)) (List.toArray []))) <|
  @List.cons (Nat × Obj) (@Prod.mk Nat Obj (nat_lit 131) (PySem.Obj.mk (PySem.Value.type "code") (@none Nat) (PySem.Data.fields (List.toArray [(PySem.Value.str (so "small_letter") (384 : Nat)), (PySem.Value.str (so "small_letter") (385 : Nat)), (PySem.Value.str (so "/claim/cut.py") (386 : Nat)), (PySem.Value.int (102 : Int) (0 : Nat)), (PySem.Value.int (1 : Int) (0 : Nat)), (PySem.Value.int (0 : Int) (0 : Nat)), (PySem.Value.int (0 : Int) (0 : Nat)), (PySem.Value.int (3 : Int) (0 : Nat)), (PySem.Value.ref (126 : Nat)), (PySem.Value.bool Bool.true), (PySem.Value.int (181 : Int) (0 : Nat)), (PySem.Value.ref (127 : Nat)), PySem.Value.none, (PySem.Value.ref (128 : Nat)), (PySem.Value.ref (129 : Nat)), (PySem.Value.ref (130 : Nat)), (PySem.Value.int (388 : Int) (0 : Nat)), (PySem.Value.int (102 : Int) (0 : Nat)), (PySem.Value.str (so "/claim/cut.py") (389 : Nat))])) (List.toArray []))) <|
  @List.cons (Nat × Obj) (@Prod.mk Nat Obj (nat_lit 132) (PySem.Obj.mk (PySem.Value.type "function") (@none Nat) (PySem.Data.func (PySem.FuncData.mk (so "small_letter") (so "small_letter") pa132 (PySem.FuncBody.stmts bo132) sc132 (3 : Nat) (@List.nil (PySem.Str × Nat)) PySem.Value.none PySem.Value.none PySem.Value.none (PySem.Value.str (so "perlcore.quotes") (244 : Nat)) (@none Nat) (PySem.Value.ref (131 : Nat)) PySem.Value.none (0 : Nat))) (List.toArray []))) <|
  @List.cons (Nat × Obj) (@Prod.mk Nat Obj (nat_lit 133) (PySem.Obj.mk (PySem.Value.type "tuple") (@none Nat) (PySem.Data.seq (List.toArray []) (0 : Nat)) (List.toArray []))) <|
  @List.cons (Nat × Obj) (@Prod.mk Nat Obj (nat_lit 135) (PySem.Obj.mk (PySem.Value.type "tuple") (@none Nat) (PySem.Data.seq (List.toArray [(PySem.Value.str (so "sign") (394 : Nat))]) (0 : Nat)) (List.toArray []))) <|
  @List.cons (Nat × Obj) (@Prod.mk Nat Obj (nat_lit 136) (PySem.Obj.mk (PySem.Value.type "tuple") (@none Nat) (PySem.Data.seq (List.toArray []) (0 : Nat)) (List.toArray []))) <|
  @List.cons (Nat × Obj) (@Prod.mk Nat Obj (nat_lit 138) (PySem.Obj.mk (PySem.Value.type "code") (@none Nat) (PySem.Data.fields (List.toArray [(PySem.Value.str (so "is_plain_word_sign") (391 : Nat)), (PySem.Value.str (so "is_plain_word_sign") (392 : Nat)), (PySem.Value.str (so "/claim/cut.py") (393 : Nat)), (PySem.Value.int (106 : Int) (0 : Nat)), (PySem.Value.int (1 : Int) (0 : Nat)), (PySem.Value.int (0 : Int) (0 : Nat)), (PySem.Value.int (0 : Int) (0 : Nat)), (PySem.Value.int (3 : Int) (0 : Nat)), (PySem.Value.ref (133 : Nat)), (PySem.Value.bool Bool.true), (PySem.Value.int (181 : Int) (0 : Nat)), (PySem.Value.ref (134 : Nat)), PySem.Value.none, (PySem.Value.ref (135 : Nat)), (PySem.Value.ref (136 : Nat)), (PySem.Value.ref (137 : Nat)), (PySem.Value.int (395 : Int) (0 : Nat)), (PySem.Value.int (106 : Int) (0 : Nat)), (PySem.Value.str (so "/claim/cut.py") (396 : Nat))])) (List.toArray []))) <|
  @List.cons (Nat × Obj) (@Prod.mk Nat Obj (nat_lit 139) (PySem.Obj.mk (PySem.Value.type "function") (@none Nat) (PySem.Data.func (PySem.FuncData.mk (so "is_plain_word_sign") (so "is_plain_word_sign") pa139 (PySem.FuncBody.stmts bo139) sc139 (3 : Nat) (@List.nil (PySem.Str × Nat)) PySem.Value.none PySem.Value.none PySem.Value.none (PySem.Value.str (so "perlcore.quotes") (244 : Nat)) (@none Nat) (PySem.Value.ref (138 : Nat)) PySem.Value.none (0 : Nat))) (List.toArray []))) <|
  @List.cons (Nat × Obj) (@Prod.mk Nat Obj (nat_lit 140) (PySem.Obj.mk (PySem.Value.type "tuple") (@none Nat) (PySem.Data.seq (List.toArray []) (0 : Nat)) (List.toArray []))) <|
  @List.cons (Nat × Obj) (@Prod.mk Nat Obj (nat_lit 142) (PySem.Obj.mk (PySem.Value.type "tuple") (@none Nat) (PySem.Data.seq (List.toArray [(PySem.Value.str (so "mark") (401 : Nat)), (PySem.Value.str (so "text") (402 : Nat)), (PySem.Value.str (so "out") (403 : Nat)), (PySem.Value.str (so "sign") (404 : Nat))]) (0 : Nat)) (List.toArray []))) <|
  @List.cons (Nat × Obj) (@Prod.mk Nat Obj (nat_lit 143) (PySem.Obj.mk (PySem.Value.type "tuple") (@none Nat) (PySem.Data.seq (List.toArray []) (0 : Nat)) (List.toArray []))) <|
  @List.cons (Nat × Obj) (@Prod.mk Nat Obj (nat_lit 145) (PySem.Obj.mk (PySem.Value.type "code") (@none Nat) (PySem.Data.fields (List.toArray [(PySem.Value.str (so "cased_text") (398 : Nat)), (PySem.Value.str (so "cased_text") (399 : Nat)), (PySem.Value.str (so "/claim/cut.py") (400 : Nat)), (PySem.Value.int (108 : Int) (0 : Nat)), (PySem.Value.int (2 : Int) (0 : Nat)), (PySem.Value.int (0 : Int) (0 : Nat)), (PySem.Value.int (0 : Int) (0 : Nat)), (PySem.Value.int (3 : Int) (0 : Nat)), (PySem.Value.ref (140 : Nat)), (PySem.Value.bool Bool.true), (PySem.Value.int (181 : Int) (0 : Nat)), (PySem.Value.ref (141 : Nat)), PySem.Value.none, (PySem.Value.ref (142 : Nat)), (PySem.Value.ref (143 : Nat)), (PySem.Value.ref (144 : Nat)), (PySem.Value.int (405 : Int) (0 : Nat)), (PySem.Value.int (108 : Int) (0 : Nat)), (PySem.Value.str (so "/claim/cut.py") (406 : Nat))])) (List.toArray []))) <|
  @List.cons (Nat × Obj) (@Prod.mk Nat Obj (nat_lit 146) (PySem.Obj.mk (PySem.Value.type "function") (@none Nat) (PySem.Data.func (PySem.FuncData.mk (so "cased_text") (so "cased_text") pa146 (PySem.FuncBody.stmts bo146) sc146 (3 : Nat) (@List.nil (PySem.Str × Nat)) PySem.Value.none PySem.Value.none PySem.Value.none (PySem.Value.str (so "perlcore.quotes") (244 : Nat)) (@none Nat) (PySem.Value.ref (145 : Nat)) PySem.Value.none (0 : Nat))) (List.toArray []))) <|
  @List.cons (Nat × Obj) (@Prod.mk Nat Obj (nat_lit 147) (PySem.Obj.mk (PySem.Value.type "tuple") (@none Nat) (PySem.Data.seq (List.toArray []) (0 : Nat)) (List.toArray []))) <|
  @List.cons (Nat × Obj) (@Prod.mk Nat Obj (nat_lit 149) (PySem.Obj.mk (PySem.Value.type "tuple") (@none Nat) (PySem.Data.seq (List.toArray [(PySem.Value.str (so "lines") (411 : Nat)), (PySem.Value.str (so "at") (412 : Nat)), (PySem.Value.str (so "word") (413 : Nat)), (PySem.Value.str (so "is_indented") (414 : Nat)), (PySem.Value.str (so "end") (415 : Nat)), (PySem.Value.str (so "row") (416 : Nat))]) (0 : Nat)) (List.toArray []))) <|
  @List.cons (Nat × Obj) (@Prod.mk Nat Obj (nat_lit 150) (PySem.Obj.mk (PySem.Value.type "tuple") (@none Nat) (PySem.Data.seq (List.toArray []) (0 : Nat)) (List.toArray []))) <|
  @List.cons (Nat × Obj) (@Prod.mk Nat Obj (nat_lit 152) (PySem.Obj.mk (PySem.Value.type "code") (@none Nat) (PySem.Data.fields (List.toArray [(PySem.Value.str (so "here_end") (408 : Nat)), (PySem.Value.str (so "here_end") (409 : Nat)), (PySem.Value.str (so "/claim/cut.py") (410 : Nat)), (PySem.Value.int (124 : Int) (0 : Nat)), (PySem.Value.int (4 : Int) (0 : Nat)), (PySem.Value.int (0 : Int) (0 : Nat)), (PySem.Value.int (0 : Int) (0 : Nat)), (PySem.Value.int (3 : Int) (0 : Nat)), (PySem.Value.ref (147 : Nat)), (PySem.Value.bool Bool.true), (PySem.Value.int (181 : Int) (0 : Nat)), (PySem.Value.ref (148 : Nat)), PySem.Value.none, (PySem.Value.ref (149 : Nat)), (PySem.Value.ref (150 : Nat)), (PySem.Value.ref (151 : Nat)), (PySem.Value.int (417 : Int) (0 : Nat)), (PySem.Value.int (124 : Int) (0 : Nat)), (PySem.Value.str (so "/claim/cut.py") (418 : Nat))])) (List.toArray []))) <|
  @List.cons (Nat × Obj) (@Prod.mk Nat Obj (nat_lit 153) (PySem.Obj.mk (PySem.Value.type "function") (@none Nat) (PySem.Data.func (PySem.FuncData.mk (so "here_end") (so "here_end") pa153 (PySem.FuncBody.stmts bo153) sc153 (3 : Nat) (@List.nil (PySem.Str × Nat)) PySem.Value.none PySem.Value.none PySem.Value.none (PySem.Value.str (so "perlcore.quotes") (244 : Nat)) (@none Nat) (PySem.Value.ref (152 : Nat)) PySem.Value.none (0 : Nat))) (List.toArray []))) <|
  @List.cons (Nat × Obj) (@Prod.mk Nat Obj (nat_lit 154) (PySem.Obj.mk (PySem.Value.type "tuple") (@none Nat) (PySem.Data.seq (List.toArray []) (0 : Nat)) (List.toArray []))) <|
  @List.cons (Nat × Obj) (@Prod.mk Nat Obj (nat_lit 156) (PySem.Obj.mk (PySem.Value.type "tuple") (@none Nat) (PySem.Data.seq (List.toArray [(PySem.Value.str (so "lines") (423 : Nat)), (PySem.Value.str (so "at") (424 : Nat)), (PySem.Value.str (so "word") (425 : Nat)), (PySem.Value.str (so "is_indented") (426 : Nat)), (PySem.Value.str (so "end") (427 : Nat)), (PySem.Value.str (so "margin") (428 : Nat)), (PySem.Value.str (so "text") (429 : Nat)), (PySem.Value.str (so "place") (430 : Nat)), (PySem.Value.str (so "row") (431 : Nat))]) (0 : Nat)) (List.toArray []))) <|
  @List.cons (Nat × Obj) (@Prod.mk Nat Obj (nat_lit 157) (PySem.Obj.mk (PySem.Value.type "tuple") (@none Nat) (PySem.Data.seq (List.toArray []) (0 : Nat)) (List.toArray []))) <|
  @List.cons (Nat × Obj) (@Prod.mk Nat Obj (nat_lit 159) (PySem.Obj.mk (PySem.Value.type "code") (@none Nat) (PySem.Data.fields (List.toArray [(PySem.Value.str (so "here_body") (420 : Nat)), (PySem.Value.str (so "here_body") (421 : Nat)), (PySem.Value.str (so "/claim/cut.py") (422 : Nat)), (PySem.Value.int (132 : Int) (0 : Nat)), (PySem.Value.int (4 : Int) (0 : Nat)), (PySem.Value.int (0 : Int) (0 : Nat)), (PySem.Value.int (0 : Int) (0 : Nat)), (PySem.Value.int (3 : Int) (0 : Nat)), (PySem.Value.ref (154 : Nat)), (PySem.Value.bool Bool.true), (PySem.Value.int (181 : Int) (0 : Nat)), (PySem.Value.ref (155 : Nat)), PySem.Value.none, (PySem.Value.ref (156 : Nat)), (PySem.Value.ref (157 : Nat)), (PySem.Value.ref (158 : Nat)), (PySem.Value.int (432 : Int) (0 : Nat)), (PySem.Value.int (132 : Int) (0 : Nat)), (PySem.Value.str (so "/claim/cut.py") (433 : Nat))])) (List.toArray []))) <|
  @List.cons (Nat × Obj) (@Prod.mk Nat Obj (nat_lit 160) (PySem.Obj.mk (PySem.Value.type "function") (@none Nat) (PySem.Data.func (PySem.FuncData.mk (so "here_body") (so "here_body") pa160 (PySem.FuncBody.stmts bo160) sc160 (3 : Nat) (@List.nil (PySem.Str × Nat)) PySem.Value.none PySem.Value.none PySem.Value.none (PySem.Value.str (so "perlcore.quotes") (244 : Nat)) (@none Nat) (PySem.Value.ref (159 : Nat)) PySem.Value.none (0 : Nat))) (List.toArray []))) <|
  @List.cons (Nat × Obj) (@Prod.mk Nat Obj (nat_lit 161) (PySem.Obj.mk (PySem.Value.type "tuple") (@none Nat) (PySem.Data.seq (List.toArray []) (0 : Nat)) (List.toArray []))) <|
  @List.cons (Nat × Obj) (@Prod.mk Nat Obj (nat_lit 163) (PySem.Obj.mk (PySem.Value.type "tuple") (@none Nat) (PySem.Data.seq (List.toArray [(PySem.Value.str (so "sign") (444 : Nat))]) (0 : Nat)) (List.toArray []))) <|
  @List.cons (Nat × Obj) (@Prod.mk Nat Obj (nat_lit 164) (PySem.Obj.mk (PySem.Value.type "tuple") (@none Nat) (PySem.Data.seq (List.toArray []) (0 : Nat)) (List.toArray []))) <|
  @List.cons (Nat × Obj) (@Prod.mk Nat Obj (nat_lit 166) (PySem.Obj.mk (PySem.Value.type "code") (@none Nat) (PySem.Data.fields (List.toArray [(PySem.Value.str (so "is_name_start") (441 : Nat)), (PySem.Value.str (so "is_name_start") (442 : Nat)), (PySem.Value.str (so "/claim/cut.py") (443 : Nat)), (PySem.Value.int (147 : Int) (0 : Nat)), (PySem.Value.int (1 : Int) (0 : Nat)), (PySem.Value.int (0 : Int) (0 : Nat)), (PySem.Value.int (0 : Int) (0 : Nat)), (PySem.Value.int (3 : Int) (0 : Nat)), (PySem.Value.ref (161 : Nat)), (PySem.Value.bool Bool.true), (PySem.Value.int (181 : Int) (0 : Nat)), (PySem.Value.ref (162 : Nat)), PySem.Value.none, (PySem.Value.ref (163 : Nat)), (PySem.Value.ref (164 : Nat)), (PySem.Value.ref (165 : Nat)), (PySem.Value.int (445 : Int) (0 : Nat)), (PySem.Value.int (147 : Int) (0 : Nat)), (PySem.Value.str (so "/claim/cut.py") (446 : Nat))])) (List.toArray []))) <|
  @List.cons (Nat × Obj) (@Prod.mk Nat Obj (nat_lit 167) (PySem.Obj.mk (PySem.Value.type "function") (@none Nat) (PySem.Data.func (PySem.FuncData.mk (so "is_name_start") (so "is_name_start") pa167 (PySem.FuncBody.stmts bo167) sc167 (3 : Nat) (@List.nil (PySem.Str × Nat)) PySem.Value.none PySem.Value.none PySem.Value.none (PySem.Value.str (so "perlcore.interp") (435 : Nat)) (@none Nat) (PySem.Value.ref (166 : Nat)) PySem.Value.none (0 : Nat))) (List.toArray []))) <|
  @List.cons (Nat × Obj) (@Prod.mk Nat Obj (nat_lit 168) (PySem.Obj.mk (PySem.Value.type "tuple") (@none Nat) (PySem.Data.seq (List.toArray []) (0 : Nat)) (List.toArray []))) <|
  @List.cons (Nat × Obj) (@Prod.mk Nat Obj (nat_lit 170) (PySem.Obj.mk (PySem.Value.type "tuple") (@none Nat) (PySem.Data.seq (List.toArray [(PySem.Value.str (so "text") (451 : Nat)), (PySem.Value.str (so "at") (452 : Nat)), (PySem.Value.str (so "end") (453 : Nat))]) (0 : Nat)) (List.toArray []))) <|
  @List.cons (Nat × Obj) (@Prod.mk Nat Obj (nat_lit 171) (PySem.Obj.mk (PySem.Value.type "tuple") (@none Nat) (PySem.Data.seq (List.toArray []) (0 : Nat)) (List.toArray []))) <|
  @List.cons (Nat × Obj) (@Prod.mk Nat Obj (nat_lit 173) (PySem.Obj.mk (PySem.Value.type "code") (@none Nat) (PySem.Data.fields (List.toArray [(PySem.Value.str (so "variable_name_end") (448 : Nat)), (PySem.Value.str (so "variable_name_end") (449 : Nat)), (PySem.Value.str (so "/claim/cut.py") (450 : Nat)), (PySem.Value.int (149 : Int) (0 : Nat)), (PySem.Value.int (2 : Int) (0 : Nat)), (PySem.Value.int (0 : Int) (0 : Nat)), (PySem.Value.int (0 : Int) (0 : Nat)), (PySem.Value.int (3 : Int) (0 : Nat)), (PySem.Value.ref (168 : Nat)), (PySem.Value.bool Bool.true), (PySem.Value.int (181 : Int) (0 : Nat)), (PySem.Value.ref (169 : Nat)), PySem.Value.none, (PySem.Value.ref (170 : Nat)), (PySem.Value.ref (171 : Nat)), (PySem.Value.ref (172 : Nat)), (PySem.Value.int (454 : Int) (0 : Nat)), (PySem.Value.int (149 : Int) (0 : Nat)), (PySem.Value.str (so "/claim/cut.py") (455 : Nat))])) (List.toArray []))) <|
  @List.cons (Nat × Obj) (@Prod.mk Nat Obj (nat_lit 174) (PySem.Obj.mk (PySem.Value.type "function") (@none Nat) (PySem.Data.func (PySem.FuncData.mk (so "variable_name_end") (so "variable_name_end") pa174 (PySem.FuncBody.stmts bo174) sc174 (3 : Nat) (@List.nil (PySem.Str × Nat)) PySem.Value.none PySem.Value.none PySem.Value.none (PySem.Value.str (so "perlcore.interp") (435 : Nat)) (@none Nat) (PySem.Value.ref (173 : Nat)) PySem.Value.none (0 : Nat))) (List.toArray []))) <|
  @List.cons (Nat × Obj) (@Prod.mk Nat Obj (nat_lit 175) (PySem.Obj.mk (PySem.Value.type "tuple") (@none Nat) (PySem.Data.seq (List.toArray []) (0 : Nat)) (List.toArray []))) <|
  @List.cons (Nat × Obj) (@Prod.mk Nat Obj (nat_lit 177) (PySem.Obj.mk (PySem.Value.type "tuple") (@none Nat) (PySem.Data.seq (List.toArray [(PySem.Value.str (so "text") (460 : Nat)), (PySem.Value.str (so "at") (461 : Nat)), (PySem.Value.str (so "end") (462 : Nat))]) (0 : Nat)) (List.toArray []))) <|
  @List.cons (Nat × Obj) (@Prod.mk Nat Obj (nat_lit 178) (PySem.Obj.mk (PySem.Value.type "tuple") (@none Nat) (PySem.Data.seq (List.toArray []) (0 : Nat)) (List.toArray []))) <|
  @List.cons (Nat × Obj) (@Prod.mk Nat Obj (nat_lit 180) (PySem.Obj.mk (PySem.Value.type "code") (@none Nat) (PySem.Data.fields (List.toArray [(PySem.Value.str (so "quote_skip") (457 : Nat)), (PySem.Value.str (so "quote_skip") (458 : Nat)), (PySem.Value.str (so "/claim/cut.py") (459 : Nat)), (PySem.Value.int (163 : Int) (0 : Nat)), (PySem.Value.int (2 : Int) (0 : Nat)), (PySem.Value.int (0 : Int) (0 : Nat)), (PySem.Value.int (0 : Int) (0 : Nat)), (PySem.Value.int (3 : Int) (0 : Nat)), (PySem.Value.ref (175 : Nat)), (PySem.Value.bool Bool.true), (PySem.Value.int (181 : Int) (0 : Nat)), (PySem.Value.ref (176 : Nat)), PySem.Value.none, (PySem.Value.ref (177 : Nat)), (PySem.Value.ref (178 : Nat)), (PySem.Value.ref (179 : Nat)), (PySem.Value.int (463 : Int) (0 : Nat)), (PySem.Value.int (163 : Int) (0 : Nat)), (PySem.Value.str (so "/claim/cut.py") (464 : Nat))])) (List.toArray []))) <|
  @List.cons (Nat × Obj) (@Prod.mk Nat Obj (nat_lit 181) (PySem.Obj.mk (PySem.Value.type "function") (@none Nat) (PySem.Data.func (PySem.FuncData.mk (so "quote_skip") (so "quote_skip") pa181 (PySem.FuncBody.stmts bo181) sc181 (3 : Nat) (@List.nil (PySem.Str × Nat)) PySem.Value.none PySem.Value.none PySem.Value.none (PySem.Value.str (so "perlcore.interp") (435 : Nat)) (@none Nat) (PySem.Value.ref (180 : Nat)) PySem.Value.none (0 : Nat))) (List.toArray []))) <|
  @List.cons (Nat × Obj) (@Prod.mk Nat Obj (nat_lit 182) (PySem.Obj.mk (PySem.Value.type "tuple") (@none Nat) (PySem.Data.seq (List.toArray []) (0 : Nat)) (List.toArray []))) <|
  @List.cons (Nat × Obj) (@Prod.mk Nat Obj (nat_lit 184) (PySem.Obj.mk (PySem.Value.type "tuple") (@none Nat) (PySem.Data.seq (List.toArray [(PySem.Value.str (so "text") (469 : Nat)), (PySem.Value.str (so "at") (470 : Nat)), (PySem.Value.str (so "opening") (471 : Nat)), (PySem.Value.str (so "closing") (472 : Nat)), (PySem.Value.str (so "depth") (473 : Nat)), (PySem.Value.str (so "end") (474 : Nat)), (PySem.Value.str (so "sign") (475 : Nat))]) (0 : Nat)) (List.toArray []))) <|
  @List.cons (Nat × Obj) (@Prod.mk Nat Obj (nat_lit 185) (PySem.Obj.mk (PySem.Value.type "tuple") (@none Nat) (PySem.Data.seq (List.toArray []) (0 : Nat)) (List.toArray []))) <|
  @List.cons (Nat × Obj) (@Prod.mk Nat Obj (nat_lit 187) (PySem.Obj.mk (PySem.Value.type "code") (@none Nat) (PySem.Data.fields (List.toArray [(PySem.Value.str (so "subscript_end") (466 : Nat)), (PySem.Value.str (so "subscript_end") (467 : Nat)), (PySem.Value.str (so "/claim/cut.py") (468 : Nat)), (PySem.Value.int (172 : Int) (0 : Nat)), (PySem.Value.int (2 : Int) (0 : Nat)), (PySem.Value.int (0 : Int) (0 : Nat)), (PySem.Value.int (0 : Int) (0 : Nat)), (PySem.Value.int (3 : Int) (0 : Nat)), (PySem.Value.ref (182 : Nat)), (PySem.Value.bool Bool.true), (PySem.Value.int (181 : Int) (0 : Nat)), (PySem.Value.ref (183 : Nat)), PySem.Value.none, (PySem.Value.ref (184 : Nat)), (PySem.Value.ref (185 : Nat)), (PySem.Value.ref (186 : Nat)), (PySem.Value.int (476 : Int) (0 : Nat)), (PySem.Value.int (172 : Int) (0 : Nat)), (PySem.Value.str (so "/claim/cut.py") (477 : Nat))])) (List.toArray []))) <|
  @List.cons (Nat × Obj) (@Prod.mk Nat Obj (nat_lit 188) (PySem.Obj.mk (PySem.Value.type "function") (@none Nat) (PySem.Data.func (PySem.FuncData.mk (so "subscript_end") (so "subscript_end") pa188 (PySem.FuncBody.stmts bo188) sc188 (3 : Nat) (@List.nil (PySem.Str × Nat)) PySem.Value.none PySem.Value.none PySem.Value.none (PySem.Value.str (so "perlcore.interp") (435 : Nat)) (@none Nat) (PySem.Value.ref (187 : Nat)) PySem.Value.none (0 : Nat))) (List.toArray []))) <|
  @List.cons (Nat × Obj) (@Prod.mk Nat Obj (nat_lit 189) (PySem.Obj.mk (PySem.Value.type "tuple") (@none Nat) (PySem.Data.seq (List.toArray []) (0 : Nat)) (List.toArray []))) <|
  @List.cons (Nat × Obj) (@Prod.mk Nat Obj (nat_lit 191) (PySem.Obj.mk (PySem.Value.type "tuple") (@none Nat) (PySem.Data.seq (List.toArray [(PySem.Value.str (so "text") (482 : Nat)), (PySem.Value.str (so "sign") (483 : Nat))]) (0 : Nat)) (List.toArray []))) <|
  @List.cons (Nat × Obj) (@Prod.mk Nat Obj (nat_lit 192) (PySem.Obj.mk (PySem.Value.type "tuple") (@none Nat) (PySem.Data.seq (List.toArray []) (0 : Nat)) (List.toArray []))) <|
  @List.cons (Nat × Obj) (@Prod.mk Nat Obj (nat_lit 194) (PySem.Obj.mk (PySem.Value.type "code") (@none Nat) (PySem.Data.fields (List.toArray [(PySem.Value.str (so "digits_only") (479 : Nat)), (PySem.Value.str (so "digits_only") (480 : Nat)), (PySem.Value.str (so "/claim/cut.py") (481 : Nat)), (PySem.Value.int (193 : Int) (0 : Nat)), (PySem.Value.int (1 : Int) (0 : Nat)), (PySem.Value.int (0 : Int) (0 : Nat)), (PySem.Value.int (0 : Int) (0 : Nat)), (PySem.Value.int (3 : Int) (0 : Nat)), (PySem.Value.ref (189 : Nat)), (PySem.Value.bool Bool.true), (PySem.Value.int (181 : Int) (0 : Nat)), (PySem.Value.ref (190 : Nat)), PySem.Value.none, (PySem.Value.ref (191 : Nat)), (PySem.Value.ref (192 : Nat)), (PySem.Value.ref (193 : Nat)), (PySem.Value.int (484 : Int) (0 : Nat)), (PySem.Value.int (193 : Int) (0 : Nat)), (PySem.Value.str (so "/claim/cut.py") (485 : Nat))])) (List.toArray []))) <|
  @List.cons (Nat × Obj) (@Prod.mk Nat Obj (nat_lit 195) (PySem.Obj.mk (PySem.Value.type "function") (@none Nat) (PySem.Data.func (PySem.FuncData.mk (so "digits_only") (so "digits_only") pa195 (PySem.FuncBody.stmts bo195) sc195 (3 : Nat) (@List.nil (PySem.Str × Nat)) PySem.Value.none PySem.Value.none PySem.Value.none (PySem.Value.str (so "perlcore.interp") (435 : Nat)) (@none Nat) (PySem.Value.ref (194 : Nat)) PySem.Value.none (0 : Nat))) (List.toArray []))) <|
  @List.cons (Nat × Obj) (@Prod.mk Nat Obj (nat_lit 196) (PySem.Obj.mk (PySem.Value.type "tuple") (@none Nat) (PySem.Data.seq (List.toArray []) (0 : Nat)) (List.toArray []))) <|
  @List.cons (Nat × Obj) (@Prod.mk Nat Obj (nat_lit 198) (PySem.Obj.mk (PySem.Value.type "tuple") (@none Nat) (PySem.Data.seq (List.toArray [(PySem.Value.str (so "inner") (490 : Nat)), (PySem.Value.str (so "opening") (491 : Nat)), (PySem.Value.str (so "low") (492 : Nat)), (PySem.Value.str (so "comma") (493 : Nat)), (PySem.Value.str (so "high") (494 : Nat))]) (0 : Nat)) (List.toArray []))) <|
  @List.cons (Nat × Obj) (@Prod.mk Nat Obj (nat_lit 199) (PySem.Obj.mk (PySem.Value.type "tuple") (@none Nat) (PySem.Data.seq (List.toArray []) (0 : Nat)) (List.toArray []))) <|
  @List.cons (Nat × Obj) (@Prod.mk Nat Obj (nat_lit 201) (PySem.Obj.mk (PySem.Value.type "code") (@none Nat) (PySem.Data.fields (List.toArray [(PySem.Value.str (so "is_pattern_part") (487 : Nat)), (PySem.Value.str (so "is_pattern_part") (488 : Nat)), (PySem.Value.str (so "/claim/cut.py") (489 : Nat)), (PySem.Value.int (200 : Int) (0 : Nat)), (PySem.Value.int (2 : Int) (0 : Nat)), (PySem.Value.int (0 : Int) (0 : Nat)), (PySem.Value.int (0 : Int) (0 : Nat)), (PySem.Value.int (3 : Int) (0 : Nat)), (PySem.Value.ref (196 : Nat)), (PySem.Value.bool Bool.true), (PySem.Value.int (181 : Int) (0 : Nat)), (PySem.Value.ref (197 : Nat)), PySem.Value.none, (PySem.Value.ref (198 : Nat)), (PySem.Value.ref (199 : Nat)), (PySem.Value.ref (200 : Nat)), (PySem.Value.int (495 : Int) (0 : Nat)), (PySem.Value.int (200 : Int) (0 : Nat)), (PySem.Value.str (so "/claim/cut.py") (496 : Nat))])) (List.toArray []))) <|
  @List.cons (Nat × Obj) (@Prod.mk Nat Obj (nat_lit 202) (PySem.Obj.mk (PySem.Value.type "function") (@none Nat) (PySem.Data.func (PySem.FuncData.mk (so "is_pattern_part") (so "is_pattern_part") pa202 (PySem.FuncBody.stmts bo202) sc202 (3 : Nat) (@List.nil (PySem.Str × Nat)) PySem.Value.none PySem.Value.none PySem.Value.none (PySem.Value.str (so "perlcore.interp") (435 : Nat)) (@none Nat) (PySem.Value.ref (201 : Nat)) PySem.Value.none (0 : Nat))) (List.toArray []))) <|
  @List.cons (Nat × Obj) (@Prod.mk Nat Obj (nat_lit 203) (PySem.Obj.mk (PySem.Value.type "tuple") (@none Nat) (PySem.Data.seq (List.toArray []) (0 : Nat)) (List.toArray []))) <|
  @List.cons (Nat × Obj) (@Prod.mk Nat Obj (nat_lit 205) (PySem.Obj.mk (PySem.Value.type "tuple") (@none Nat) (PySem.Data.seq (List.toArray [(PySem.Value.str (so "text") (501 : Nat)), (PySem.Value.str (so "at") (502 : Nat)), (PySem.Value.str (so "is_pattern") (503 : Nat)), (PySem.Value.str (so "end") (504 : Nat))]) (0 : Nat)) (List.toArray []))) <|
  @List.cons (Nat × Obj) (@Prod.mk Nat Obj (nat_lit 206) (PySem.Obj.mk (PySem.Value.type "tuple") (@none Nat) (PySem.Data.seq (List.toArray []) (0 : Nat)) (List.toArray []))) <|
  @List.cons (Nat × Obj) (@Prod.mk Nat Obj (nat_lit 208) (PySem.Obj.mk (PySem.Value.type "code") (@none Nat) (PySem.Data.fields (List.toArray [(PySem.Value.str (so "one_subscript") (498 : Nat)), (PySem.Value.str (so "one_subscript") (499 : Nat)), (PySem.Value.str (so "/claim/cut.py") (500 : Nat)), (PySem.Value.int (209 : Int) (0 : Nat)), (PySem.Value.int (3 : Int) (0 : Nat)), (PySem.Value.int (0 : Int) (0 : Nat)), (PySem.Value.int (0 : Int) (0 : Nat)), (PySem.Value.int (3 : Int) (0 : Nat)), (PySem.Value.ref (203 : Nat)), (PySem.Value.bool Bool.true), (PySem.Value.int (181 : Int) (0 : Nat)), (PySem.Value.ref (204 : Nat)), PySem.Value.none, (PySem.Value.ref (205 : Nat)), (PySem.Value.ref (206 : Nat)), (PySem.Value.ref (207 : Nat)), (PySem.Value.int (505 : Int) (0 : Nat)), (PySem.Value.int (209 : Int) (0 : Nat)), (PySem.Value.str (so "/claim/cut.py") (506 : Nat))])) (List.toArray []))) <|
  @List.cons (Nat × Obj) (@Prod.mk Nat Obj (nat_lit 209) (PySem.Obj.mk (PySem.Value.type "function") (@none Nat) (PySem.Data.func (PySem.FuncData.mk (so "one_subscript") (so "one_subscript") pa209 (PySem.FuncBody.stmts bo209) sc209 (3 : Nat) (@List.nil (PySem.Str × Nat)) PySem.Value.none PySem.Value.none PySem.Value.none (PySem.Value.str (so "perlcore.interp") (435 : Nat)) (@none Nat) (PySem.Value.ref (208 : Nat)) PySem.Value.none (0 : Nat))) (List.toArray []))) <|
  @List.cons (Nat × Obj) (@Prod.mk Nat Obj (nat_lit 210) (PySem.Obj.mk (PySem.Value.type "tuple") (@none Nat) (PySem.Data.seq (List.toArray []) (0 : Nat)) (List.toArray []))) <|
  @List.cons (Nat × Obj) (@Prod.mk Nat Obj (nat_lit 212) (PySem.Obj.mk (PySem.Value.type "tuple") (@none Nat) (PySem.Data.seq (List.toArray [(PySem.Value.str (so "text") (511 : Nat)), (PySem.Value.str (so "at") (512 : Nat)), (PySem.Value.str (so "is_pattern") (513 : Nat)), (PySem.Value.str (so "end") (514 : Nat)), (PySem.Value.str (so "begin") (515 : Nat)), (PySem.Value.str (so "behind") (516 : Nat))]) (0 : Nat)) (List.toArray []))) <|
  @List.cons (Nat × Obj) (@Prod.mk Nat Obj (nat_lit 213) (PySem.Obj.mk (PySem.Value.type "tuple") (@none Nat) (PySem.Data.seq (List.toArray []) (0 : Nat)) (List.toArray []))) <|
  @List.cons (Nat × Obj) (@Prod.mk Nat Obj (nat_lit 215) (PySem.Obj.mk (PySem.Value.type "code") (@none Nat) (PySem.Data.fields (List.toArray [(PySem.Value.str (so "all_subscripts") (508 : Nat)), (PySem.Value.str (so "all_subscripts") (509 : Nat)), (PySem.Value.str (so "/claim/cut.py") (510 : Nat)), (PySem.Value.int (216 : Int) (0 : Nat)), (PySem.Value.int (3 : Int) (0 : Nat)), (PySem.Value.int (0 : Int) (0 : Nat)), (PySem.Value.int (0 : Int) (0 : Nat)), (PySem.Value.int (3 : Int) (0 : Nat)), (PySem.Value.ref (210 : Nat)), (PySem.Value.bool Bool.true), (PySem.Value.int (181 : Int) (0 : Nat)), (PySem.Value.ref (211 : Nat)), PySem.Value.none, (PySem.Value.ref (212 : Nat)), (PySem.Value.ref (213 : Nat)), (PySem.Value.ref (214 : Nat)), (PySem.Value.int (517 : Int) (0 : Nat)), (PySem.Value.int (216 : Int) (0 : Nat)), (PySem.Value.str (so "/claim/cut.py") (518 : Nat))])) (List.toArray []))) <|
  @List.cons (Nat × Obj) (@Prod.mk Nat Obj (nat_lit 216) (PySem.Obj.mk (PySem.Value.type "function") (@none Nat) (PySem.Data.func (PySem.FuncData.mk (so "all_subscripts") (so "all_subscripts") pa216 (PySem.FuncBody.stmts bo216) sc216 (3 : Nat) (@List.nil (PySem.Str × Nat)) PySem.Value.none PySem.Value.none PySem.Value.none (PySem.Value.str (so "perlcore.interp") (435 : Nat)) (@none Nat) (PySem.Value.ref (215 : Nat)) PySem.Value.none (0 : Nat))) (List.toArray []))) <|
  @List.cons (Nat × Obj) (@Prod.mk Nat Obj (nat_lit 217) (PySem.Obj.mk (PySem.Value.type "tuple") (@none Nat) (PySem.Data.seq (List.toArray []) (0 : Nat)) (List.toArray []))) <|
  @List.cons (Nat × Obj) (@Prod.mk Nat Obj (nat_lit 219) (PySem.Obj.mk (PySem.Value.type "tuple") (@none Nat) (PySem.Data.seq (List.toArray [(PySem.Value.str (so "text") (523 : Nat)), (PySem.Value.str (so "at") (524 : Nat)), (PySem.Value.str (so "end") (525 : Nat)), (PySem.Value.str (so "behind") (526 : Nat))]) (0 : Nat)) (List.toArray []))) <|
  @List.cons (Nat × Obj) (@Prod.mk Nat Obj (nat_lit 220) (PySem.Obj.mk (PySem.Value.type "tuple") (@none Nat) (PySem.Data.seq (List.toArray []) (0 : Nat)) (List.toArray []))) <|
  @List.cons (Nat × Obj) (@Prod.mk Nat Obj (nat_lit 222) (PySem.Obj.mk (PySem.Value.type "code") (@none Nat) (PySem.Data.fields (List.toArray [(PySem.Value.str (so "base_end") (520 : Nat)), (PySem.Value.str (so "base_end") (521 : Nat)), (PySem.Value.str (so "/claim/cut.py") (522 : Nat)), (PySem.Value.int (226 : Int) (0 : Nat)), (PySem.Value.int (2 : Int) (0 : Nat)), (PySem.Value.int (0 : Int) (0 : Nat)), (PySem.Value.int (0 : Int) (0 : Nat)), (PySem.Value.int (3 : Int) (0 : Nat)), (PySem.Value.ref (217 : Nat)), (PySem.Value.bool Bool.true), (PySem.Value.int (181 : Int) (0 : Nat)), (PySem.Value.ref (218 : Nat)), PySem.Value.none, (PySem.Value.ref (219 : Nat)), (PySem.Value.ref (220 : Nat)), (PySem.Value.ref (221 : Nat)), (PySem.Value.int (527 : Int) (0 : Nat)), (PySem.Value.int (226 : Int) (0 : Nat)), (PySem.Value.str (so "/claim/cut.py") (528 : Nat))])) (List.toArray []))) <|
  @List.cons (Nat × Obj) (@Prod.mk Nat Obj (nat_lit 223) (PySem.Obj.mk (PySem.Value.type "function") (@none Nat) (PySem.Data.func (PySem.FuncData.mk (so "base_end") (so "base_end") pa223 (PySem.FuncBody.stmts bo223) sc223 (3 : Nat) (@List.nil (PySem.Str × Nat)) PySem.Value.none PySem.Value.none PySem.Value.none (PySem.Value.str (so "perlcore.interp") (435 : Nat)) (@none Nat) (PySem.Value.ref (222 : Nat)) PySem.Value.none (0 : Nat))) (List.toArray []))) <|
  @List.cons (Nat × Obj) (@Prod.mk Nat Obj (nat_lit 224) (PySem.Obj.mk (PySem.Value.type "tuple") (@none Nat) (PySem.Data.seq (List.toArray []) (0 : Nat)) (List.toArray []))) <|
  @List.cons (Nat × Obj) (@Prod.mk Nat Obj (nat_lit 226) (PySem.Obj.mk (PySem.Value.type "tuple") (@none Nat) (PySem.Data.seq (List.toArray [(PySem.Value.str (so "text") (533 : Nat)), (PySem.Value.str (so "at") (534 : Nat)), (PySem.Value.str (so "is_pattern") (535 : Nat)), (PySem.Value.str (so "sign") (536 : Nat)), (PySem.Value.str (so "end") (537 : Nat))]) (0 : Nat)) (List.toArray []))) <|
  @List.cons (Nat × Obj) (@Prod.mk Nat Obj (nat_lit 227) (PySem.Obj.mk (PySem.Value.type "tuple") (@none Nat) (PySem.Data.seq (List.toArray []) (0 : Nat)) (List.toArray []))) <|
  @List.cons (Nat × Obj) (@Prod.mk Nat Obj (nat_lit 229) (PySem.Obj.mk (PySem.Value.type "code") (@none Nat) (PySem.Data.fields (List.toArray [(PySem.Value.str (so "scalar_end") (530 : Nat)), (PySem.Value.str (so "scalar_end") (531 : Nat)), (PySem.Value.str (so "/claim/cut.py") (532 : Nat)), (PySem.Value.int (235 : Int) (0 : Nat)), (PySem.Value.int (3 : Int) (0 : Nat)), (PySem.Value.int (0 : Int) (0 : Nat)), (PySem.Value.int (0 : Int) (0 : Nat)), (PySem.Value.int (3 : Int) (0 : Nat)), (PySem.Value.ref (224 : Nat)), (PySem.Value.bool Bool.true), (PySem.Value.int (181 : Int) (0 : Nat)), (PySem.Value.ref (225 : Nat)), PySem.Value.none, (PySem.Value.ref (226 : Nat)), (PySem.Value.ref (227 : Nat)), (PySem.Value.ref (228 : Nat)), (PySem.Value.int (538 : Int) (0 : Nat)), (PySem.Value.int (235 : Int) (0 : Nat)), (PySem.Value.str (so "/claim/cut.py") (539 : Nat))])) (List.toArray []))) <|
  @List.cons (Nat × Obj) (@Prod.mk Nat Obj (nat_lit 230) (PySem.Obj.mk (PySem.Value.type "function") (@none Nat) (PySem.Data.func (PySem.FuncData.mk (so "scalar_end") (so "scalar_end") pa230 (PySem.FuncBody.stmts bo230) sc230 (3 : Nat) (@List.nil (PySem.Str × Nat)) PySem.Value.none PySem.Value.none PySem.Value.none (PySem.Value.str (so "perlcore.interp") (435 : Nat)) (@none Nat) (PySem.Value.ref (229 : Nat)) PySem.Value.none (0 : Nat))) (List.toArray []))) <|
  @List.cons (Nat × Obj) (@Prod.mk Nat Obj (nat_lit 231) (PySem.Obj.mk (PySem.Value.type "tuple") (@none Nat) (PySem.Data.seq (List.toArray []) (0 : Nat)) (List.toArray []))) <|
  @List.cons (Nat × Obj) (@Prod.mk Nat Obj (nat_lit 233) (PySem.Obj.mk (PySem.Value.type "tuple") (@none Nat) (PySem.Data.seq (List.toArray [(PySem.Value.str (so "text") (544 : Nat)), (PySem.Value.str (so "at") (545 : Nat)), (PySem.Value.str (so "is_pattern") (546 : Nat)), (PySem.Value.str (so "end") (547 : Nat))]) (0 : Nat)) (List.toArray []))) <|
  @List.cons (Nat × Obj) (@Prod.mk Nat Obj (nat_lit 234) (PySem.Obj.mk (PySem.Value.type "tuple") (@none Nat) (PySem.Data.seq (List.toArray []) (0 : Nat)) (List.toArray []))) <|
  @List.cons (Nat × Obj) (@Prod.mk Nat Obj (nat_lit 236) (PySem.Obj.mk (PySem.Value.type "code") (@none Nat) (PySem.Data.fields (List.toArray [(PySem.Value.str (so "array_end") (541 : Nat)), (PySem.Value.str (so "array_end") (542 : Nat)), (PySem.Value.str (so "/claim/cut.py") (543 : Nat)), (PySem.Value.int (253 : Int) (0 : Nat)), (PySem.Value.int (3 : Int) (0 : Nat)), (PySem.Value.int (0 : Int) (0 : Nat)), (PySem.Value.int (0 : Int) (0 : Nat)), (PySem.Value.int (3 : Int) (0 : Nat)), (PySem.Value.ref (231 : Nat)), (PySem.Value.bool Bool.true), (PySem.Value.int (181 : Int) (0 : Nat)), (PySem.Value.ref (232 : Nat)), PySem.Value.none, (PySem.Value.ref (233 : Nat)), (PySem.Value.ref (234 : Nat)), (PySem.Value.ref (235 : Nat)), (PySem.Value.int (548 : Int) (0 : Nat)), (PySem.Value.int (253 : Int) (0 : Nat)), (PySem.Value.str (so "/claim/cut.py") (549 : Nat))])) (List.toArray []))) <|
  @List.cons (Nat × Obj) (@Prod.mk Nat Obj (nat_lit 237) (PySem.Obj.mk (PySem.Value.type "function") (@none Nat) (PySem.Data.func (PySem.FuncData.mk (so "array_end") (so "array_end") pa237 (PySem.FuncBody.stmts bo237) sc237 (3 : Nat) (@List.nil (PySem.Str × Nat)) PySem.Value.none PySem.Value.none PySem.Value.none (PySem.Value.str (so "perlcore.interp") (435 : Nat)) (@none Nat) (PySem.Value.ref (236 : Nat)) PySem.Value.none (0 : Nat))) (List.toArray []))) <|
  @List.cons (Nat × Obj) (@Prod.mk Nat Obj (nat_lit 238) (PySem.Obj.mk (PySem.Value.type "tuple") (@none Nat) (PySem.Data.seq (List.toArray []) (0 : Nat)) (List.toArray []))) <|
  @List.cons (Nat × Obj) (@Prod.mk Nat Obj (nat_lit 240) (PySem.Obj.mk (PySem.Value.type "tuple") (@none Nat) (PySem.Data.seq (List.toArray [(PySem.Value.str (so "stack") (554 : Nat)), (PySem.Value.str (so "part") (555 : Nat)), (PySem.Value.str (so "parts") (556 : Nat))]) (0 : Nat)) (List.toArray []))) <|
  @List.cons (Nat × Obj) (@Prod.mk Nat Obj (nat_lit 241) (PySem.Obj.mk (PySem.Value.type "tuple") (@none Nat) (PySem.Data.seq (List.toArray []) (0 : Nat)) (List.toArray []))) <|
  @List.cons (Nat × Obj) (@Prod.mk Nat Obj (nat_lit 243) (PySem.Obj.mk (PySem.Value.type "code") (@none Nat) (PySem.Data.fields (List.toArray [(PySem.Value.str (so "add_part") (551 : Nat)), (PySem.Value.str (so "add_part") (552 : Nat)), (PySem.Value.str (so "/claim/cut.py") (553 : Nat)), (PySem.Value.int (258 : Int) (0 : Nat)), (PySem.Value.int (2 : Int) (0 : Nat)), (PySem.Value.int (0 : Int) (0 : Nat)), (PySem.Value.int (0 : Int) (0 : Nat)), (PySem.Value.int (3 : Int) (0 : Nat)), (PySem.Value.ref (238 : Nat)), (PySem.Value.bool Bool.true), (PySem.Value.int (181 : Int) (0 : Nat)), (PySem.Value.ref (239 : Nat)), PySem.Value.none, (PySem.Value.ref (240 : Nat)), (PySem.Value.ref (241 : Nat)), (PySem.Value.ref (242 : Nat)), (PySem.Value.int (557 : Int) (0 : Nat)), (PySem.Value.int (258 : Int) (0 : Nat)), (PySem.Value.str (so "/claim/cut.py") (558 : Nat))])) (List.toArray []))) <|
  @List.cons (Nat × Obj) (@Prod.mk Nat Obj (nat_lit 244) (PySem.Obj.mk (PySem.Value.type "function") (@none Nat) (PySem.Data.func (PySem.FuncData.mk (so "add_part") (so "add_part") pa244 (PySem.FuncBody.stmts bo244) sc244 (3 : Nat) (@List.nil (PySem.Str × Nat)) PySem.Value.none PySem.Value.none PySem.Value.none (PySem.Value.str (so "perlcore.interp") (435 : Nat)) (@none Nat) (PySem.Value.ref (243 : Nat)) PySem.Value.none (0 : Nat))) (List.toArray []))) <|
  @List.cons (Nat × Obj) (@Prod.mk Nat Obj (nat_lit 245) (PySem.Obj.mk (PySem.Value.type "tuple") (@none Nat) (PySem.Data.seq (List.toArray []) (0 : Nat)) (List.toArray []))) <|
  @List.cons (Nat × Obj) (@Prod.mk Nat Obj (nat_lit 247) (PySem.Obj.mk (PySem.Value.type "tuple") (@none Nat) (PySem.Data.seq (List.toArray [(PySem.Value.str (so "stack") (563 : Nat)), (PySem.Value.str (so "mark") (564 : Nat)), (PySem.Value.str (so "parts") (565 : Nat))]) (0 : Nat)) (List.toArray []))) <|
  @List.cons (Nat × Obj) (@Prod.mk Nat Obj (nat_lit 248) (PySem.Obj.mk (PySem.Value.type "tuple") (@none Nat) (PySem.Data.seq (List.toArray []) (0 : Nat)) (List.toArray []))) <|
  @List.cons (Nat × Obj) (@Prod.mk Nat Obj (nat_lit 250) (PySem.Obj.mk (PySem.Value.type "code") (@none Nat) (PySem.Data.fields (List.toArray [(PySem.Value.str (so "close_case") (560 : Nat)), (PySem.Value.str (so "close_case") (561 : Nat)), (PySem.Value.str (so "/claim/cut.py") (562 : Nat)), (PySem.Value.int (266 : Int) (0 : Nat)), (PySem.Value.int (1 : Int) (0 : Nat)), (PySem.Value.int (0 : Int) (0 : Nat)), (PySem.Value.int (0 : Int) (0 : Nat)), (PySem.Value.int (3 : Int) (0 : Nat)), (PySem.Value.ref (245 : Nat)), (PySem.Value.bool Bool.true), (PySem.Value.int (181 : Int) (0 : Nat)), (PySem.Value.ref (246 : Nat)), PySem.Value.none, (PySem.Value.ref (247 : Nat)), (PySem.Value.ref (248 : Nat)), (PySem.Value.ref (249 : Nat)), (PySem.Value.int (566 : Int) (0 : Nat)), (PySem.Value.int (266 : Int) (0 : Nat)), (PySem.Value.str (so "/claim/cut.py") (567 : Nat))])) (List.toArray []))) <|
  @List.cons (Nat × Obj) (@Prod.mk Nat Obj (nat_lit 251) (PySem.Obj.mk (PySem.Value.type "function") (@none Nat) (PySem.Data.func (PySem.FuncData.mk (so "close_case") (so "close_case") pa251 (PySem.FuncBody.stmts bo251) sc251 (3 : Nat) (@List.nil (PySem.Str × Nat)) PySem.Value.none PySem.Value.none PySem.Value.none (PySem.Value.str (so "perlcore.interp") (435 : Nat)) (@none Nat) (PySem.Value.ref (250 : Nat)) PySem.Value.none (0 : Nat))) (List.toArray []))) <|
  @List.cons (Nat × Obj) (@Prod.mk Nat Obj (nat_lit 252) (PySem.Obj.mk (PySem.Value.type "tuple") (@none Nat) (PySem.Data.seq (List.toArray []) (0 : Nat)) (List.toArray []))) <|
  @List.cons (Nat × Obj) (@Prod.mk Nat Obj (nat_lit 254) (PySem.Obj.mk (PySem.Value.type "tuple") (@none Nat) (PySem.Data.seq (List.toArray [(PySem.Value.str (so "stack") (572 : Nat))]) (0 : Nat)) (List.toArray []))) <|
  @List.cons (Nat × Obj) (@Prod.mk Nat Obj (nat_lit 255) (PySem.Obj.mk (PySem.Value.type "tuple") (@none Nat) (PySem.Data.seq (List.toArray []) (0 : Nat)) (List.toArray []))) <|
  @List.cons (Nat × Obj) (@Prod.mk Nat Obj (nat_lit 257) (PySem.Obj.mk (PySem.Value.type "code") (@none Nat) (PySem.Data.fields (List.toArray [(PySem.Value.str (so "end_case") (569 : Nat)), (PySem.Value.str (so "end_case") (570 : Nat)), (PySem.Value.str (so "/claim/cut.py") (571 : Nat)), (PySem.Value.int (272 : Int) (0 : Nat)), (PySem.Value.int (1 : Int) (0 : Nat)), (PySem.Value.int (0 : Int) (0 : Nat)), (PySem.Value.int (0 : Int) (0 : Nat)), (PySem.Value.int (3 : Int) (0 : Nat)), (PySem.Value.ref (252 : Nat)), (PySem.Value.bool Bool.true), (PySem.Value.int (181 : Int) (0 : Nat)), (PySem.Value.ref (253 : Nat)), PySem.Value.none, (PySem.Value.ref (254 : Nat)), (PySem.Value.ref (255 : Nat)), (PySem.Value.ref (256 : Nat)), (PySem.Value.int (573 : Int) (0 : Nat)), (PySem.Value.int (272 : Int) (0 : Nat)), (PySem.Value.str (so "/claim/cut.py") (574 : Nat))])) (List.toArray []))) <|
  @List.cons (Nat × Obj) (@Prod.mk Nat Obj (nat_lit 258) (PySem.Obj.mk (PySem.Value.type "function") (@none Nat) (PySem.Data.func (PySem.FuncData.mk (so "end_case") (so "end_case") pa258 (PySem.FuncBody.stmts bo258) sc258 (3 : Nat) (@List.nil (PySem.Str × Nat)) PySem.Value.none PySem.Value.none PySem.Value.none (PySem.Value.str (so "perlcore.interp") (435 : Nat)) (@none Nat) (PySem.Value.ref (257 : Nat)) PySem.Value.none (0 : Nat))) (List.toArray []))) <|
  @List.cons (Nat × Obj) (@Prod.mk Nat Obj (nat_lit 259) (PySem.Obj.mk (PySem.Value.type "tuple") (@none Nat) (PySem.Data.seq (List.toArray []) (0 : Nat)) (List.toArray []))) <|
  @List.cons (Nat × Obj) (@Prod.mk Nat Obj (nat_lit 261) (PySem.Obj.mk (PySem.Value.type "tuple") (@none Nat) (PySem.Data.seq (List.toArray [(PySem.Value.str (so "stack") (579 : Nat)), (PySem.Value.str (so "mark") (580 : Nat))]) (0 : Nat)) (List.toArray []))) <|
  @List.cons (Nat × Obj) (@Prod.mk Nat Obj (nat_lit 262) (PySem.Obj.mk (PySem.Value.type "tuple") (@none Nat) (PySem.Data.seq (List.toArray []) (0 : Nat)) (List.toArray []))) <|
  @List.cons (Nat × Obj) (@Prod.mk Nat Obj (nat_lit 264) (PySem.Obj.mk (PySem.Value.type "code") (@none Nat) (PySem.Data.fields (List.toArray [(PySem.Value.str (so "begin_case") (576 : Nat)), (PySem.Value.str (so "begin_case") (577 : Nat)), (PySem.Value.str (so "/claim/cut.py") (578 : Nat)), (PySem.Value.int (277 : Int) (0 : Nat)), (PySem.Value.int (2 : Int) (0 : Nat)), (PySem.Value.int (0 : Int) (0 : Nat)), (PySem.Value.int (0 : Int) (0 : Nat)), (PySem.Value.int (3 : Int) (0 : Nat)), (PySem.Value.ref (259 : Nat)), (PySem.Value.bool Bool.true), (PySem.Value.int (181 : Int) (0 : Nat)), (PySem.Value.ref (260 : Nat)), PySem.Value.none, (PySem.Value.ref (261 : Nat)), (PySem.Value.ref (262 : Nat)), (PySem.Value.ref (263 : Nat)), (PySem.Value.int (581 : Int) (0 : Nat)), (PySem.Value.int (277 : Int) (0 : Nat)), (PySem.Value.str (so "/claim/cut.py") (582 : Nat))])) (List.toArray []))) <|
  @List.cons (Nat × Obj) (@Prod.mk Nat Obj (nat_lit 265) (PySem.Obj.mk (PySem.Value.type "function") (@none Nat) (PySem.Data.func (PySem.FuncData.mk (so "begin_case") (so "begin_case") pa265 (PySem.FuncBody.stmts bo265) sc265 (3 : Nat) (@List.nil (PySem.Str × Nat)) PySem.Value.none PySem.Value.none PySem.Value.none (PySem.Value.str (so "perlcore.interp") (435 : Nat)) (@none Nat) (PySem.Value.ref (264 : Nat)) PySem.Value.none (0 : Nat))) (List.toArray []))) <|
  @List.cons (Nat × Obj) (@Prod.mk Nat Obj (nat_lit 266) (PySem.Obj.mk (PySem.Value.type "tuple") (@none Nat) (PySem.Data.seq (List.toArray []) (0 : Nat)) (List.toArray []))) <|
  @List.cons (Nat × Obj) (@Prod.mk Nat Obj (nat_lit 268) (PySem.Obj.mk (PySem.Value.type "tuple") (@none Nat) (PySem.Data.seq (List.toArray [(PySem.Value.str (so "stack") (587 : Nat)), (PySem.Value.str (so "text") (588 : Nat)), (PySem.Value.str (so "at") (589 : Nat)), (PySem.Value.str (so "mark") (590 : Nat)), (PySem.Value.str (so "pair") (591 : Nat))]) (0 : Nat)) (List.toArray []))) <|
  @List.cons (Nat × Obj) (@Prod.mk Nat Obj (nat_lit 269) (PySem.Obj.mk (PySem.Value.type "tuple") (@none Nat) (PySem.Data.seq (List.toArray []) (0 : Nat)) (List.toArray []))) <|
  @List.cons (Nat × Obj) (@Prod.mk Nat Obj (nat_lit 271) (PySem.Obj.mk (PySem.Value.type "code") (@none Nat) (PySem.Data.fields (List.toArray [(PySem.Value.str (so "take_case") (584 : Nat)), (PySem.Value.str (so "take_case") (585 : Nat)), (PySem.Value.str (so "/claim/cut.py") (586 : Nat)), (PySem.Value.int (281 : Int) (0 : Nat)), (PySem.Value.int (3 : Int) (0 : Nat)), (PySem.Value.int (0 : Int) (0 : Nat)), (PySem.Value.int (0 : Int) (0 : Nat)), (PySem.Value.int (3 : Int) (0 : Nat)), (PySem.Value.ref (266 : Nat)), (PySem.Value.bool Bool.true), (PySem.Value.int (181 : Int) (0 : Nat)), (PySem.Value.ref (267 : Nat)), PySem.Value.none, (PySem.Value.ref (268 : Nat)), (PySem.Value.ref (269 : Nat)), (PySem.Value.ref (270 : Nat)), (PySem.Value.int (592 : Int) (0 : Nat)), (PySem.Value.int (281 : Int) (0 : Nat)), (PySem.Value.str (so "/claim/cut.py") (593 : Nat))])) (List.toArray []))) <|
  @List.cons (Nat × Obj) (@Prod.mk Nat Obj (nat_lit 272) (PySem.Obj.mk (PySem.Value.type "function") (@none Nat) (PySem.Data.func (PySem.FuncData.mk (so "take_case") (so "take_case") pa272 (PySem.FuncBody.stmts bo272) sc272 (3 : Nat) (@List.nil (PySem.Str × Nat)) PySem.Value.none PySem.Value.none PySem.Value.none (PySem.Value.str (so "perlcore.interp") (435 : Nat)) (@none Nat) (PySem.Value.ref (271 : Nat)) PySem.Value.none (0 : Nat))) (List.toArray []))) <|
  @List.cons (Nat × Obj) (@Prod.mk Nat Obj (nat_lit 273) (PySem.Obj.mk (PySem.Value.type "tuple") (@none Nat) (PySem.Data.seq (List.toArray []) (0 : Nat)) (List.toArray []))) <|
  @List.cons (Nat × Obj) (@Prod.mk Nat Obj (nat_lit 275) (PySem.Obj.mk (PySem.Value.type "tuple") (@none Nat) (PySem.Data.seq (List.toArray [(PySem.Value.str (so "stack") (598 : Nat)), (PySem.Value.str (so "text") (599 : Nat)), (PySem.Value.str (so "at") (600 : Nat)), (PySem.Value.str (so "is_pattern") (601 : Nat)), (PySem.Value.str (so "sign") (602 : Nat)), (PySem.Value.str (so "piece") (603 : Nat)), (PySem.Value.str (so "behind") (604 : Nat))]) (0 : Nat)) (List.toArray []))) <|
  @List.cons (Nat × Obj) (@Prod.mk Nat Obj (nat_lit 276) (PySem.Obj.mk (PySem.Value.type "tuple") (@none Nat) (PySem.Data.seq (List.toArray []) (0 : Nat)) (List.toArray []))) <|
  @List.cons (Nat × Obj) (@Prod.mk Nat Obj (nat_lit 278) (PySem.Obj.mk (PySem.Value.type "code") (@none Nat) (PySem.Data.fields (List.toArray [(PySem.Value.str (so "take_piece") (595 : Nat)), (PySem.Value.str (so "take_piece") (596 : Nat)), (PySem.Value.str (so "/claim/cut.py") (597 : Nat)), (PySem.Value.int (295 : Int) (0 : Nat)), (PySem.Value.int (4 : Int) (0 : Nat)), (PySem.Value.int (0 : Int) (0 : Nat)), (PySem.Value.int (0 : Int) (0 : Nat)), (PySem.Value.int (3 : Int) (0 : Nat)), (PySem.Value.ref (273 : Nat)), (PySem.Value.bool Bool.true), (PySem.Value.int (181 : Int) (0 : Nat)), (PySem.Value.ref (274 : Nat)), PySem.Value.none, (PySem.Value.ref (275 : Nat)), (PySem.Value.ref (276 : Nat)), (PySem.Value.ref (277 : Nat)), (PySem.Value.int (605 : Int) (0 : Nat)), (PySem.Value.int (295 : Int) (0 : Nat)), (PySem.Value.str (so "/claim/cut.py") (606 : Nat))])) (List.toArray []))) <|
  @List.cons (Nat × Obj) (@Prod.mk Nat Obj (nat_lit 279) (PySem.Obj.mk (PySem.Value.type "function") (@none Nat) (PySem.Data.func (PySem.FuncData.mk (so "take_piece") (so "take_piece") pa279 (PySem.FuncBody.stmts bo279) sc279 (3 : Nat) (@List.nil (PySem.Str × Nat)) PySem.Value.none PySem.Value.none PySem.Value.none (PySem.Value.str (so "perlcore.interp") (435 : Nat)) (@none Nat) (PySem.Value.ref (278 : Nat)) PySem.Value.none (0 : Nat))) (List.toArray []))) <|
  @List.cons (Nat × Obj) (@Prod.mk Nat Obj (nat_lit 280) (PySem.Obj.mk (PySem.Value.type "tuple") (@none Nat) (PySem.Data.seq (List.toArray []) (0 : Nat)) (List.toArray []))) <|
  @List.cons (Nat × Obj) (@Prod.mk Nat Obj (nat_lit 282) (PySem.Obj.mk (PySem.Value.type "tuple") (@none Nat) (PySem.Data.seq (List.toArray [(PySem.Value.str (so "text") (611 : Nat)), (PySem.Value.str (so "is_pattern") (612 : Nat)), (PySem.Value.str (so "stack") (613 : Nat)), (PySem.Value.str (so "at") (614 : Nat)), (PySem.Value.str (so "follower") (615 : Nat))]) (0 : Nat)) (List.toArray []))) <|
  @List.cons (Nat × Obj) (@Prod.mk Nat Obj (nat_lit 283) (PySem.Obj.mk (PySem.Value.type "tuple") (@none Nat) (PySem.Data.seq (List.toArray []) (0 : Nat)) (List.toArray []))) <|
  @List.cons (Nat × Obj) (@Prod.mk Nat Obj (nat_lit 285) (PySem.Obj.mk (PySem.Value.type "code") (@none Nat) (PySem.Data.fields (List.toArray [(PySem.Value.str (so "parts_of") (608 : Nat)), (PySem.Value.str (so "parts_of") (609 : Nat)), (PySem.Value.str (so "/claim/cut.py") (610 : Nat)), (PySem.Value.int (314 : Int) (0 : Nat)), (PySem.Value.int (2 : Int) (0 : Nat)), (PySem.Value.int (0 : Int) (0 : Nat)), (PySem.Value.int (0 : Int) (0 : Nat)), (PySem.Value.int (3 : Int) (0 : Nat)), (PySem.Value.ref (280 : Nat)), (PySem.Value.bool Bool.true), (PySem.Value.int (181 : Int) (0 : Nat)), (PySem.Value.ref (281 : Nat)), PySem.Value.none, (PySem.Value.ref (282 : Nat)), (PySem.Value.ref (283 : Nat)), (PySem.Value.ref (284 : Nat)), (PySem.Value.int (616 : Int) (0 : Nat)), (PySem.Value.int (314 : Int) (0 : Nat)), (PySem.Value.str (so "/claim/cut.py") (617 : Nat))])) (List.toArray []))) <|
  @List.cons (Nat × Obj) (@Prod.mk Nat Obj (nat_lit 286) (PySem.Obj.mk (PySem.Value.type "function") (@none Nat) (PySem.Data.func (PySem.FuncData.mk (so "parts_of") (so "parts_of") pa286 (PySem.FuncBody.stmts bo286) sc286 (3 : Nat) (@List.nil (PySem.Str × Nat)) PySem.Value.none PySem.Value.none PySem.Value.none (PySem.Value.str (so "perlcore.interp") (435 : Nat)) (@none Nat) (PySem.Value.ref (285 : Nat)) PySem.Value.none (0 : Nat))) (List.toArray []))) <|
  @List.cons (Nat × Obj) (@Prod.mk Nat Obj (nat_lit 287) (PySem.Obj.mk (PySem.Value.type "tuple") (@none Nat) (PySem.Data.seq (List.toArray []) (0 : Nat)) (List.toArray []))) <|
  @List.cons (Nat × Obj) (@Prod.mk Nat Obj (nat_lit 289) (PySem.Obj.mk (PySem.Value.type "tuple") (@none Nat) (PySem.Data.seq (List.toArray [(PySem.Value.str (so "text") (622 : Nat)), (PySem.Value.str (so "out") (623 : Nat)), (PySem.Value.str (so "part") (624 : Nat))]) (0 : Nat)) (List.toArray []))) <|
  @List.cons (Nat × Obj) (@Prod.mk Nat Obj (nat_lit 290) (PySem.Obj.mk (PySem.Value.type "tuple") (@none Nat) (PySem.Data.seq (List.toArray []) (0 : Nat)) (List.toArray []))) <|
  @List.cons (Nat × Obj) (@Prod.mk Nat Obj (nat_lit 292) (PySem.Obj.mk (PySem.Value.type "code") (@none Nat) (PySem.Data.fields (List.toArray [(PySem.Value.str (so "plain_qq") (619 : Nat)), (PySem.Value.str (so "plain_qq") (620 : Nat)), (PySem.Value.str (so "/claim/cut.py") (621 : Nat)), (PySem.Value.int (326 : Int) (0 : Nat)), (PySem.Value.int (1 : Int) (0 : Nat)), (PySem.Value.int (0 : Int) (0 : Nat)), (PySem.Value.int (0 : Int) (0 : Nat)), (PySem.Value.int (3 : Int) (0 : Nat)), (PySem.Value.ref (287 : Nat)), (PySem.Value.bool Bool.true), (PySem.Value.int (181 : Int) (0 : Nat)), (PySem.Value.ref (288 : Nat)), PySem.Value.none, (PySem.Value.ref (289 : Nat)), (PySem.Value.ref (290 : Nat)), (PySem.Value.ref (291 : Nat)), (PySem.Value.int (625 : Int) (0 : Nat)), (PySem.Value.int (326 : Int) (0 : Nat)), (PySem.Value.str (so "/claim/cut.py") (626 : Nat))])) (List.toArray []))) <|
  @List.cons (Nat × Obj) (@Prod.mk Nat Obj (nat_lit 293) (PySem.Obj.mk (PySem.Value.type "function") (@none Nat) (PySem.Data.func (PySem.FuncData.mk (so "plain_qq") (so "plain_qq") pa293 (PySem.FuncBody.stmts bo293) sc293 (3 : Nat) (@List.nil (PySem.Str × Nat)) PySem.Value.none PySem.Value.none PySem.Value.none (PySem.Value.str (so "perlcore.interp") (435 : Nat)) (@none Nat) (PySem.Value.ref (292 : Nat)) PySem.Value.none (0 : Nat))) (List.toArray []))) <|
  @List.cons (Nat × Obj) (@Prod.mk Nat Obj (nat_lit 294) (PySem.Obj.mk (PySem.Value.type "tuple") (@none Nat) (PySem.Data.seq (List.toArray []) (0 : Nat)) (List.toArray []))) <|
  @List.cons (Nat × Obj) (@Prod.mk Nat Obj (nat_lit 296) (PySem.Obj.mk (PySem.Value.type "tuple") (@none Nat) (PySem.Data.seq (List.toArray []) (0 : Nat)) (List.toArray []))) <|
  @List.cons (Nat × Obj) (@Prod.mk Nat Obj (nat_lit 297) (PySem.Obj.mk (PySem.Value.type "tuple") (@none Nat) (PySem.Data.seq (List.toArray []) (0 : Nat)) (List.toArray []))) <|
  @List.cons (Nat × Obj) (@Prod.mk Nat Obj (nat_lit 299) (PySem.Obj.mk (PySem.Value.type "code") (@none Nat) (PySem.Data.fields (List.toArray [(PySem.Value.str (so "_law_ends") (632 : Nat)), (PySem.Value.str (so "_law_ends") (633 : Nat)), (PySem.Value.str (so "/claim/cut.py") (634 : Nat)), (PySem.Value.int (335 : Int) (0 : Nat)), (PySem.Value.int (0 : Int) (0 : Nat)), (PySem.Value.int (0 : Int) (0 : Nat)), (PySem.Value.int (0 : Int) (0 : Nat)), (PySem.Value.int (3 : Int) (0 : Nat)), (PySem.Value.ref (294 : Nat)), (PySem.Value.bool Bool.true), (PySem.Value.int (181 : Int) (0 : Nat)), (PySem.Value.ref (295 : Nat)), PySem.Value.none, (PySem.Value.ref (296 : Nat)), (PySem.Value.ref (297 : Nat)), (PySem.Value.ref (298 : Nat)), (PySem.Value.int (635 : Int) (0 : Nat)), (PySem.Value.int (335 : Int) (0 : Nat)), (PySem.Value.str (so "/claim/cut.py") (636 : Nat))])) (List.toArray []))) <|
  @List.cons (Nat × Obj) (@Prod.mk Nat Obj (nat_lit 300) (PySem.Obj.mk (PySem.Value.type "function") (@none Nat) (PySem.Data.func (PySem.FuncData.mk (so "_law_ends") (so "_law_ends") pa300 (PySem.FuncBody.stmts bo300) sc300 (3 : Nat) (@List.nil (PySem.Str × Nat)) PySem.Value.none PySem.Value.none PySem.Value.none (PySem.Value.str (so "law_nz0190_01") (628 : Nat)) (@none Nat) (PySem.Value.ref (299 : Nat)) PySem.Value.none (0 : Nat))) (List.toArray []))) <|
  @List.cons (Nat × Obj) (@Prod.mk Nat Obj (nat_lit 301) (PySem.Obj.mk (PySem.Value.type "dict") (@none Nat) (PySem.Data.dict (List.toArray [(PySem.DictEntry.mk (kh P (so "\n")) (PySem.Value.str (so "\n") (638 : Nat)) (PySem.Value.str (so "\\n") (639 : Nat))), (PySem.DictEntry.mk (kh P (so "\t")) (PySem.Value.str (so "\t") (640 : Nat)) (PySem.Value.str (so "\\t") (641 : Nat))), (PySem.DictEntry.mk (kh P (so "\x1b")) (PySem.Value.str (so "\x1b") (642 : Nat)) (PySem.Value.str (so "\\e") (643 : Nat))), (PySem.DictEntry.mk (kh P (so "\\")) (PySem.Value.str (so "\\") (644 : Nat)) (PySem.Value.str (so "\\\\") (645 : Nat))), (PySem.DictEntry.mk (kh P (so "$")) (PySem.Value.str (so "$") (646 : Nat)) (PySem.Value.str (so "\\$") (647 : Nat))), (PySem.DictEntry.mk (kh P (so "@")) (PySem.Value.str (so "@") (648 : Nat)) (PySem.Value.str (so "\\@") (649 : Nat)))]) (6 : Nat)) (List.toArray []))) <|
  @List.cons (Nat × Obj) (@Prod.mk Nat Obj (nat_lit 302) (PySem.Obj.mk (PySem.Value.type "tuple") (@none Nat) (PySem.Data.seq (List.toArray []) (0 : Nat)) (List.toArray []))) <|
  @List.cons (Nat × Obj) (@Prod.mk Nat Obj (nat_lit 304) (PySem.Obj.mk (PySem.Value.type "tuple") (@none Nat) (PySem.Data.seq (List.toArray [(PySem.Value.str (so "tape") (660 : Nat)), (PySem.Value.str (so "n") (661 : Nat)), (PySem.Value.str (so "at") (662 : Nat))]) (0 : Nat)) (List.toArray []))) <|
  @List.cons (Nat × Obj) (@Prod.mk Nat Obj (nat_lit 305) (PySem.Obj.mk (PySem.Value.type "tuple") (@none Nat) (PySem.Data.seq (List.toArray []) (0 : Nat)) (List.toArray []))) <|
  @List.cons (Nat × Obj) (@Prod.mk Nat Obj (nat_lit 307) (PySem.Obj.mk (PySem.Value.type "code") (@none Nat) (PySem.Data.fields (List.toArray [(PySem.Value.str (so "_law_take") (657 : Nat)), (PySem.Value.str (so "_law_take") (658 : Nat)), (PySem.Value.str (so "/claim/cut.py") (659 : Nat)), (PySem.Value.int (338 : Int) (0 : Nat)), (PySem.Value.int (2 : Int) (0 : Nat)), (PySem.Value.int (0 : Int) (0 : Nat)), (PySem.Value.int (0 : Int) (0 : Nat)), (PySem.Value.int (3 : Int) (0 : Nat)), (PySem.Value.ref (302 : Nat)), (PySem.Value.bool Bool.true), (PySem.Value.int (181 : Int) (0 : Nat)), (PySem.Value.ref (303 : Nat)), PySem.Value.none, (PySem.Value.ref (304 : Nat)), (PySem.Value.ref (305 : Nat)), (PySem.Value.ref (306 : Nat)), (PySem.Value.int (663 : Int) (0 : Nat)), (PySem.Value.int (338 : Int) (0 : Nat)), (PySem.Value.str (so "/claim/cut.py") (664 : Nat))])) (List.toArray []))) <|
  @List.cons (Nat × Obj) (@Prod.mk Nat Obj (nat_lit 308) (PySem.Obj.mk (PySem.Value.type "function") (@none Nat) (PySem.Data.func (PySem.FuncData.mk (so "_law_take") (so "_law_take") pa308 (PySem.FuncBody.stmts bo308) sc308 (3 : Nat) (@List.nil (PySem.Str × Nat)) PySem.Value.none PySem.Value.none PySem.Value.none (PySem.Value.str (so "law_nz0190_01") (628 : Nat)) (@none Nat) (PySem.Value.ref (307 : Nat)) PySem.Value.none (0 : Nat))) (List.toArray []))) <|
  @List.cons (Nat × Obj) (@Prod.mk Nat Obj (nat_lit 309) (PySem.Obj.mk (PySem.Value.type "tuple") (@none Nat) (PySem.Data.seq (List.toArray []) (0 : Nat)) (List.toArray []))) <|
  @List.cons (Nat × Obj) (@Prod.mk Nat Obj (nat_lit 311) (PySem.Obj.mk (PySem.Value.type "tuple") (@none Nat) (PySem.Data.seq (List.toArray [(PySem.Value.str (so "number") (669 : Nat)), (PySem.Value.str (so "base") (670 : Nat)), (PySem.Value.str (so "text") (671 : Nat))]) (0 : Nat)) (List.toArray []))) <|
  @List.cons (Nat × Obj) (@Prod.mk Nat Obj (nat_lit 312) (PySem.Obj.mk (PySem.Value.type "tuple") (@none Nat) (PySem.Data.seq (List.toArray []) (0 : Nat)) (List.toArray []))) <|
  @List.cons (Nat × Obj) (@Prod.mk Nat Obj (nat_lit 314) (PySem.Obj.mk (PySem.Value.type "code") (@none Nat) (PySem.Data.fields (List.toArray [(PySem.Value.str (so "_law_based") (666 : Nat)), (PySem.Value.str (so "_law_based") (667 : Nat)), (PySem.Value.str (so "/claim/cut.py") (668 : Nat)), (PySem.Value.int (344 : Int) (0 : Nat)), (PySem.Value.int (2 : Int) (0 : Nat)), (PySem.Value.int (0 : Int) (0 : Nat)), (PySem.Value.int (0 : Int) (0 : Nat)), (PySem.Value.int (3 : Int) (0 : Nat)), (PySem.Value.ref (309 : Nat)), (PySem.Value.bool Bool.true), (PySem.Value.int (181 : Int) (0 : Nat)), (PySem.Value.ref (310 : Nat)), PySem.Value.none, (PySem.Value.ref (311 : Nat)), (PySem.Value.ref (312 : Nat)), (PySem.Value.ref (313 : Nat)), (PySem.Value.int (672 : Int) (0 : Nat)), (PySem.Value.int (344 : Int) (0 : Nat)), (PySem.Value.str (so "/claim/cut.py") (673 : Nat))])) (List.toArray []))) <|
  @List.cons (Nat × Obj) (@Prod.mk Nat Obj (nat_lit 315) (PySem.Obj.mk (PySem.Value.type "function") (@none Nat) (PySem.Data.func (PySem.FuncData.mk (so "_law_based") (so "_law_based") pa315 (PySem.FuncBody.stmts bo315) sc315 (3 : Nat) (@List.nil (PySem.Str × Nat)) PySem.Value.none PySem.Value.none PySem.Value.none (PySem.Value.str (so "law_nz0190_01") (628 : Nat)) (@none Nat) (PySem.Value.ref (314 : Nat)) PySem.Value.none (0 : Nat))) (List.toArray []))) <|
  @List.cons (Nat × Obj) (@Prod.mk Nat Obj (nat_lit 316) (PySem.Obj.mk (PySem.Value.type "tuple") (@none Nat) (PySem.Data.seq (List.toArray []) (0 : Nat)) (List.toArray []))) <|
  @List.cons (Nat × Obj) (@Prod.mk Nat Obj (nat_lit 318) (PySem.Obj.mk (PySem.Value.type "tuple") (@none Nat) (PySem.Data.seq (List.toArray [(PySem.Value.str (so "tape") (678 : Nat)), (PySem.Value.str (so "text") (679 : Nat)), (PySem.Value.str (so "opening") (680 : Nat)), (PySem.Value.str (so "raw") (681 : Nat)), (PySem.Value.str (so "sign") (682 : Nat))]) (0 : Nat)) (List.toArray []))) <|
  @List.cons (Nat × Obj) (@Prod.mk Nat Obj (nat_lit 319) (PySem.Obj.mk (PySem.Value.type "tuple") (@none Nat) (PySem.Data.seq (List.toArray []) (0 : Nat)) (List.toArray []))) <|
  @List.cons (Nat × Obj) (@Prod.mk Nat Obj (nat_lit 321) (PySem.Obj.mk (PySem.Value.type "code") (@none Nat) (PySem.Data.fields (List.toArray [(PySem.Value.str (so "_law_in_q") (675 : Nat)), (PySem.Value.str (so "_law_in_q") (676 : Nat)), (PySem.Value.str (so "/claim/cut.py") (677 : Nat)), (PySem.Value.int (350 : Int) (0 : Nat)), (PySem.Value.int (3 : Int) (0 : Nat)), (PySem.Value.int (0 : Int) (0 : Nat)), (PySem.Value.int (0 : Int) (0 : Nat)), (PySem.Value.int (3 : Int) (0 : Nat)), (PySem.Value.ref (316 : Nat)), (PySem.Value.bool Bool.true), (PySem.Value.int (181 : Int) (0 : Nat)), (PySem.Value.ref (317 : Nat)), PySem.Value.none, (PySem.Value.ref (318 : Nat)), (PySem.Value.ref (319 : Nat)), (PySem.Value.ref (320 : Nat)), (PySem.Value.int (683 : Int) (0 : Nat)), (PySem.Value.int (350 : Int) (0 : Nat)), (PySem.Value.str (so "/claim/cut.py") (684 : Nat))])) (List.toArray []))) <|
  @List.cons (Nat × Obj) (@Prod.mk Nat Obj (nat_lit 322) (PySem.Obj.mk (PySem.Value.type "function") (@none Nat) (PySem.Data.func (PySem.FuncData.mk (so "_law_in_q") (so "_law_in_q") pa322 (PySem.FuncBody.stmts bo322) sc322 (3 : Nat) (@List.nil (PySem.Str × Nat)) PySem.Value.none PySem.Value.none PySem.Value.none (PySem.Value.str (so "law_nz0190_01") (628 : Nat)) (@none Nat) (PySem.Value.ref (321 : Nat)) PySem.Value.none (0 : Nat))) (List.toArray []))) <|
  @List.cons (Nat × Obj) (@Prod.mk Nat Obj (nat_lit 323) (PySem.Obj.mk (PySem.Value.type "tuple") (@none Nat) (PySem.Data.seq (List.toArray []) (0 : Nat)) (List.toArray []))) <|
  @List.cons (Nat × Obj) (@Prod.mk Nat Obj (nat_lit 325) (PySem.Obj.mk (PySem.Value.type "tuple") (@none Nat) (PySem.Data.seq (List.toArray [(PySem.Value.str (so "tape") (689 : Nat)), (PySem.Value.str (so "text") (690 : Nat)), (PySem.Value.str (so "opening") (691 : Nat)), (PySem.Value.str (so "raw") (692 : Nat)), (PySem.Value.str (so "sign") (693 : Nat)), (PySem.Value.str (so "way") (694 : Nat)), (PySem.Value.str (so "code") (695 : Nat))]) (0 : Nat)) (List.toArray []))) <|
  @List.cons (Nat × Obj) (@Prod.mk Nat Obj (nat_lit 326) (PySem.Obj.mk (PySem.Value.type "tuple") (@none Nat) (PySem.Data.seq (List.toArray []) (0 : Nat)) (List.toArray []))) <|
  @List.cons (Nat × Obj) (@Prod.mk Nat Obj (nat_lit 328) (PySem.Obj.mk (PySem.Value.type "code") (@none Nat) (PySem.Data.fields (List.toArray [(PySem.Value.str (so "_law_in_qq") (686 : Nat)), (PySem.Value.str (so "_law_in_qq") (687 : Nat)), (PySem.Value.str (so "/claim/cut.py") (688 : Nat)), (PySem.Value.int (357 : Int) (0 : Nat)), (PySem.Value.int (3 : Int) (0 : Nat)), (PySem.Value.int (0 : Int) (0 : Nat)), (PySem.Value.int (0 : Int) (0 : Nat)), (PySem.Value.int (3 : Int) (0 : Nat)), (PySem.Value.ref (323 : Nat)), (PySem.Value.bool Bool.true), (PySem.Value.int (181 : Int) (0 : Nat)), (PySem.Value.ref (324 : Nat)), PySem.Value.none, (PySem.Value.ref (325 : Nat)), (PySem.Value.ref (326 : Nat)), (PySem.Value.ref (327 : Nat)), (PySem.Value.int (696 : Int) (0 : Nat)), (PySem.Value.int (357 : Int) (0 : Nat)), (PySem.Value.str (so "/claim/cut.py") (697 : Nat))])) (List.toArray []))) <|
  @List.cons (Nat × Obj) (@Prod.mk Nat Obj (nat_lit 329) (PySem.Obj.mk (PySem.Value.type "function") (@none Nat) (PySem.Data.func (PySem.FuncData.mk (so "_law_in_qq") (so "_law_in_qq") pa329 (PySem.FuncBody.stmts bo329) sc329 (3 : Nat) (@List.nil (PySem.Str × Nat)) PySem.Value.none PySem.Value.none PySem.Value.none (PySem.Value.str (so "law_nz0190_01") (628 : Nat)) (@none Nat) (PySem.Value.ref (328 : Nat)) PySem.Value.none (0 : Nat))) (List.toArray []))) <|
  @List.cons (Nat × Obj) (@Prod.mk Nat Obj (nat_lit 330) (PySem.Obj.mk (PySem.Value.type "tuple") (@none Nat) (PySem.Data.seq (List.toArray []) (0 : Nat)) (List.toArray []))) <|
  @List.cons (Nat × Obj) (@Prod.mk Nat Obj (nat_lit 333) (PySem.Obj.mk (PySem.Value.type "code") (@none Nat) (PySem.Data.fields (List.toArray [(PySem.Value.str (so "law") (699 : Nat)), (PySem.Value.str (so "law") (700 : Nat)), (PySem.Value.str (so "/claim/cut.py") (701 : Nat)), (PySem.Value.int (377 : Int) (0 : Nat)), (PySem.Value.int (1 : Int) (0 : Nat)), (PySem.Value.int (0 : Int) (0 : Nat)), (PySem.Value.int (0 : Int) (0 : Nat)), (PySem.Value.int (3 : Int) (0 : Nat)), (PySem.Value.ref (330 : Nat)), (PySem.Value.bool Bool.true), (PySem.Value.int (181 : Int) (0 : Nat)), (PySem.Value.ref (331 : Nat)), PySem.Value.none, PySem.Value.none, PySem.Value.none, (PySem.Value.ref (332 : Nat)), (PySem.Value.int (702 : Int) (0 : Nat)), (PySem.Value.int (377 : Int) (0 : Nat)), (PySem.Value.str (so "/claim/cut.py") (703 : Nat))])) (List.toArray []))) <|
  @List.cons (Nat × Obj) (@Prod.mk Nat Obj (nat_lit 334) (PySem.Obj.mk (PySem.Value.type "function") (@none Nat) (PySem.Data.func (PySem.FuncData.mk (so "law") (so "law") pa334 (PySem.FuncBody.stmts bo334) sc334 (3 : Nat) (@List.nil (PySem.Str × Nat)) PySem.Value.none PySem.Value.none PySem.Value.none (PySem.Value.str (so "law_nz0190_01") (628 : Nat)) (@none Nat) (PySem.Value.ref (333 : Nat)) PySem.Value.none (0 : Nat))) (List.toArray []))) <|
  @List.nil (Nat × Obj)) _ (by
  delta pa28 bo28 sc28 pa48 bo48 sc48 pa62 bo62 sc62 pa69 bo69 sc69 pa76 bo76 sc76 pa83 bo83 sc83 pa90 bo90 sc90 pa97 bo97 sc97 pa104 bo104 sc104 pa111 bo111 sc111 pa118 bo118 sc118 pa125 bo125 sc125 pa132 bo132 sc132 pa139 bo139 sc139 pa146 bo146 sc146 pa153 bo153 sc153 pa160 bo160 sc160 pa167 bo167 sc167 pa174 bo174 sc174 pa181 bo181 sc181 pa188 bo188 sc188 pa195 bo195 sc195 pa202 bo202 sc202 pa209 bo209 sc209 pa216 bo216 sc216 pa223 bo223 sc223 pa230 bo230 sc230 pa237 bo237 sc237 pa244 bo244 sc244 pa251 bo251 sc251 pa258 bo258 sc258 pa265 bo265 sc265 pa272 bo272 sc272 pa279 bo279 sc279 pa286 bo286 sc286 pa293 bo293 sc293 pa300 bo300 sc300 pa308 bo308 sc308 pa315 bo315 sc315 pa322 bo322 sc322 pa329 bo329 sc329 pa334 bo334 sc334 so kh
  delta pick
  exact rfl)
abbrev as39 : List Nat := [2, 3, 15, 22, 24, 25, 27, 28, 29, 30, 31, 32, 35, 42, 44, 45, 47, 48, 49, 50, 51, 54, 55, 56, 58, 59, 61, 62, 63, 65, 66, 68, 69, 70, 72, 73, 75, 76, 77, 79, 80, 82, 83, 84, 86, 87, 89, 90, 91, 93, 94, 96, 97, 98, 100, 101, 103, 104, 105, 107, 108, 110, 111, 112, 114, 115, 117, 118, 119, 121, 122, 124, 125, 126, 128, 129, 131, 132, 133, 135, 136, 138, 139, 140, 142, 143, 145, 146, 147, 149, 150, 152, 153, 154, 156, 157, 159, 160, 161, 163, 164, 166, 167, 168, 170, 171, 173, 174, 175, 177, 178, 180, 181, 182, 184, 185, 187, 188, 189, 191, 192, 194, 195, 196, 198, 199, 201, 202, 203, 205, 206, 208, 209, 210, 212, 213, 215, 216, 217, 219, 220, 222, 223, 224, 226, 227, 229, 230, 231, 233, 234, 236, 237, 238, 240, 241, 243, 244, 245, 247, 248, 250, 251, 252, 254, 255, 257, 258, 259, 261, 262, 264, 265, 266, 268, 269, 271, 272, 273, 275, 276, 278, 279, 280, 282, 283, 285, 286, 287, 289, 290, 292, 293, 294, 296, 297, 299, 300, 301, 302, 304, 305, 307, 308, 309, 311, 312, 314, 315, 316, 318, 319, 321, 322, 323, 325, 326, 328, 329, 330, 333, 334]
theorem as39_e : ∀ P, as39 = (hd.heap_39 P).map (·.1) := fun _ => by kernel_rfl
end Nz
namespace Nz
noncomputable def qo_43 (P : Params) : Obj := (PySem.Obj.mk (PySem.Value.type "tuple") none (PySem.Data.seq (List.toArray []) (0 : Nat)) (List.toArray []))
noncomputable def qo_44 (P : Params) : Obj := (PySem.Obj.mk PySem.Value.none none (PySem.Data.fields (List.toArray [])) (List.toArray []))
noncomputable def qo_45 (P : Params) : Obj := (PySem.Obj.mk (PySem.Value.type "code") none (PySem.Data.fields (List.toArray [(PySem.Value.str (so "<module>") (182 : Nat)), (PySem.Value.str (so "<module>") (183 : Nat)), (PySem.Value.str (so "/claim/cut.py") (184 : Nat)), (PySem.Value.int (1 : Int) (0 : Nat)), (PySem.Value.int (0 : Int) (0 : Nat)), (PySem.Value.int (0 : Int) (0 : Nat)), (PySem.Value.int (0 : Int) (0 : Nat)), (PySem.Value.int (0 : Int) (0 : Nat)), (PySem.Value.ref (11 : Nat)), (PySem.Value.bool Bool.false), (PySem.Value.int (181 : Int) (0 : Nat)), (PySem.Value.ref (12 : Nat)), PySem.Value.none, PySem.Value.none, PySem.Value.none, PySem.Value.none, (PySem.Value.int (185 : Int) (0 : Nat)), (PySem.Value.int (1 : Int) (0 : Nat)), (PySem.Value.str (so "/claim/cut.py") (186 : Nat))])) (List.toArray []))
noncomputable def qo_46 (P : Params) : Obj := (PySem.Obj.mk (PySem.Value.type "frame") none PySem.Data.plain (List.toArray [(some (PySem.Value.ref (13 : Nat))), (some (PySem.Value.ref (3 : Nat))), (some (PySem.Value.ref (3 : Nat))), none, (some (PySem.Value.str (so "__main__") (164 : Nat))), none, (some (PySem.Value.ref (0 : Nat)))]))
noncomputable def qo_49 (P : Params) : Obj := (PySem.Obj.mk PySem.Value.none none (PySem.Data.dict (List.toArray [(PySem.DictEntry.mk (kh P (so "type.__subclasses__.Exception.0")) (PySem.Value.str (so "type.__subclasses__.Exception.0") (214 : Nat)) (PySem.Value.int (31 : Int) (0 : Nat))), (PySem.DictEntry.mk (kh P (so "type.__subclasses__.Exception.n")) (PySem.Value.str (so "type.__subclasses__.Exception.n") (215 : Nat)) (PySem.Value.int (1 : Int) (0 : Nat)))]) (2 : Nat)) (List.toArray []))
noncomputable def qo_50 (P : Params) : Obj := (PySem.Obj.mk (PySem.Value.type "dict") none (PySem.Data.dict (List.toArray [(PySem.DictEntry.mk (kh P (so "__name__")) (PySem.Value.str (so "__name__") (165 : Nat)) (PySem.Value.str (so "perlcore.errors") (187 : Nat))), (PySem.DictEntry.mk (kh P (so "__doc__")) (PySem.Value.str (so "__doc__") (166 : Nat)) PySem.Value.none), (PySem.DictEntry.mk (kh P (so "__package__")) (PySem.Value.str (so "__package__") (167 : Nat)) PySem.Value.none), (PySem.DictEntry.mk (kh P (so "__loader__")) (PySem.Value.str (so "__loader__") (168 : Nat)) (PySem.Value.builtin "__main__.__loader__#opaque")), (PySem.DictEntry.mk (kh P (so "__spec__")) (PySem.Value.str (so "__spec__") (169 : Nat)) PySem.Value.none), (PySem.DictEntry.mk (kh P (so "__annotations__")) (PySem.Value.str (so "__annotations__") (170 : Nat)) (PySem.Value.ref (6 : Nat))), (PySem.DictEntry.mk (kh P (so "__builtins__")) (PySem.Value.str (so "__builtins__") (171 : Nat)) (PySem.Value.ref (4 : Nat))), (PySem.DictEntry.mk (kh P (so "__file__")) (PySem.Value.str (so "__file__") (173 : Nat)) (PySem.Value.str (so "/claim/cut.py") (172 : Nat))), (PySem.DictEntry.mk (kh P (so "__cached__")) (PySem.Value.str (so "__cached__") (174 : Nat)) PySem.Value.none), (PySem.DictEntry.mk (kh P (so "PerlError")) (PySem.Value.str (so "PerlError") (217 : Nat)) (PySem.Value.ref (31 : Nat)))]) (10 : Nat)) (List.toArray []))
noncomputable def qo_51 (P : Params) : Obj := (PySem.Obj.mk PySem.Value.none none (PySem.Data.fields (List.toArray [(PySem.Value.int (2 : Int) (0 : Nat)), (PySem.Value.int (0 : Int) (0 : Nat)), (PySem.Value.ref (20 : Nat))])) (List.toArray []))
noncomputable def qo_52 (P : Params) : Obj := (PySem.Obj.mk (PySem.Value.type "tuple") none (PySem.Data.seq (List.toArray [(PySem.Value.type "Exception")]) (0 : Nat)) (List.toArray []))
noncomputable def qo_53 (P : Params) : Obj := (PySem.Obj.mk (PySem.Value.type "builtin_function_or_method") none (PySem.Data.fields (List.toArray [(PySem.Value.builtin "type.__prepare__"), (PySem.Value.type "type")])) (List.toArray []))
noncomputable def qo_54 (P : Params) : Obj := (PySem.Obj.mk (PySem.Value.type "dict") none (PySem.Data.dict (List.toArray [(PySem.DictEntry.mk (kh P (so "__module__")) (PySem.Value.str (so "__module__") (196 : Nat)) (PySem.Value.str (so "perlcore.errors") (187 : Nat))), (PySem.DictEntry.mk (kh P (so "__qualname__")) (PySem.Value.str (so "__qualname__") (198 : Nat)) (PySem.Value.str (so "PerlError") (197 : Nat))), (PySem.DictEntry.mk (kh P (so "__firstlineno__")) (PySem.Value.str (so "__firstlineno__") (200 : Nat)) (PySem.Value.int (2 : Int) (199 : Nat))), (PySem.DictEntry.mk (kh P (so "__init__")) (PySem.Value.str (so "__init__") (208 : Nat)) (PySem.Value.ref (28 : Nat))), (PySem.DictEntry.mk (kh P (so "__static_attributes__")) (PySem.Value.str (so "__static_attributes__") (210 : Nat)) (PySem.Value.ref (29 : Nat)))]) (5 : Nat)) (List.toArray []))
noncomputable def qo_55 (P : Params) : Obj := (PySem.Obj.mk (PySem.Value.type "tuple") none (PySem.Data.seq (List.toArray []) (0 : Nat)) (List.toArray []))
noncomputable def qo_56 (P : Params) : Obj := (PySem.Obj.mk PySem.Value.none none (PySem.Data.fields (List.toArray [(PySem.Value.int (4 : Int) (0 : Nat)), (PySem.Value.int (4 : Int) (0 : Nat)), (PySem.Value.ref (27 : Nat))])) (List.toArray []))
noncomputable def qo_57 (P : Params) : Obj := (PySem.Obj.mk (PySem.Value.type "code") none (PySem.Data.fields (List.toArray [(PySem.Value.str (so "PerlError") (191 : Nat)), (PySem.Value.str (so "PerlError") (192 : Nat)), (PySem.Value.str (so "/claim/cut.py") (193 : Nat)), (PySem.Value.int (2 : Int) (0 : Nat)), (PySem.Value.int (0 : Int) (0 : Nat)), (PySem.Value.int (0 : Int) (0 : Nat)), (PySem.Value.int (0 : Int) (0 : Nat)), (PySem.Value.int (0 : Int) (0 : Nat)), (PySem.Value.ref (18 : Nat)), (PySem.Value.bool Bool.false), (PySem.Value.int (181 : Int) (0 : Nat)), (PySem.Value.ref (19 : Nat)), PySem.Value.none, PySem.Value.none, PySem.Value.none, PySem.Value.none, (PySem.Value.int (194 : Int) (0 : Nat)), (PySem.Value.int (2 : Int) (0 : Nat)), (PySem.Value.str (so "/claim/cut.py") (195 : Nat))])) (List.toArray []))
noncomputable def qo_58 (P : Params) : Obj := (PySem.Obj.mk (PySem.Value.type "frame") none PySem.Data.plain (List.toArray [(some (PySem.Value.ref (20 : Nat))), (some (PySem.Value.ref (3 : Nat))), (some (PySem.Value.ref (17 : Nat))), none, (some (PySem.Value.str (so "perlcore.errors") (187 : Nat))), none, (some (PySem.Value.ref (0 : Nat)))]))
noncomputable def qo_59 (P : Params) : Obj := (PySem.Obj.mk (PySem.Value.type "tuple") none (PySem.Data.seq (List.toArray []) (0 : Nat)) (List.toArray []))
noncomputable def qo_60 (P : Params) : Obj := (PySem.Obj.mk PySem.Value.none none (PySem.Data.fields (List.toArray [])) (List.toArray []))
noncomputable def qo_61 (P : Params) : Obj := (PySem.Obj.mk (PySem.Value.type "tuple") none (PySem.Data.seq (List.toArray [(PySem.Value.str (so "self") (204 : Nat)), (PySem.Value.str (so "text") (205 : Nat))]) (0 : Nat)) (List.toArray []))
noncomputable def qo_62 (P : Params) : Obj := (PySem.Obj.mk (PySem.Value.type "tuple") none (PySem.Data.seq (List.toArray []) (0 : Nat)) (List.toArray []))
noncomputable def qo_63 (P : Params) : Obj := (PySem.Obj.mk PySem.Value.none none (PySem.Data.func (PySem.FuncData.mk (so "__init__") (so "PerlError.__init__") pa28 (PySem.FuncBody.stmts bo28) sc28 (0 : Nat) (@List.nil (PySem.Str × Nat)) PySem.Value.none PySem.Value.none PySem.Value.none PySem.Value.none none PySem.Value.none PySem.Value.none (0 : Nat))) (List.toArray []))
noncomputable def qo_64 (P : Params) : Obj := (PySem.Obj.mk (PySem.Value.type "code") none (PySem.Data.fields (List.toArray [(PySem.Value.str (so "__init__") (201 : Nat)), (PySem.Value.str (so "PerlError.__init__") (202 : Nat)), (PySem.Value.str (so "/claim/cut.py") (203 : Nat)), (PySem.Value.int (4 : Int) (0 : Nat)), (PySem.Value.int (2 : Int) (0 : Nat)), (PySem.Value.int (0 : Int) (0 : Nat)), (PySem.Value.int (0 : Int) (0 : Nat)), (PySem.Value.int (3 : Int) (0 : Nat)), (PySem.Value.ref (22 : Nat)), (PySem.Value.bool Bool.true), (PySem.Value.int (181 : Int) (0 : Nat)), (PySem.Value.ref (23 : Nat)), PySem.Value.none, (PySem.Value.ref (24 : Nat)), (PySem.Value.ref (25 : Nat)), (PySem.Value.ref (26 : Nat)), (PySem.Value.int (206 : Int) (0 : Nat)), (PySem.Value.int (4 : Int) (0 : Nat)), (PySem.Value.str (so "/claim/cut.py") (207 : Nat))])) (List.toArray []))
noncomputable def qo_65 (P : Params) : Obj := (PySem.Obj.mk (PySem.Value.type "function") none (PySem.Data.func (PySem.FuncData.mk (so "__init__") (so "PerlError.__init__") pa28 (PySem.FuncBody.stmts bo28) sc28 (3 : Nat) (@List.nil (PySem.Str × Nat)) PySem.Value.none PySem.Value.none PySem.Value.none (PySem.Value.str (so "perlcore.errors") (187 : Nat)) none (PySem.Value.ref (27 : Nat)) PySem.Value.none (0 : Nat))) (List.toArray []))
noncomputable def qo_66 (P : Params) : Obj := (PySem.Obj.mk (PySem.Value.type "tuple") none (PySem.Data.seq (List.toArray [(PySem.Value.str (so "text") (209 : Nat))]) (0 : Nat)) (List.toArray []))
noncomputable def qo_67 (P : Params) : Obj := (PySem.Obj.mk (PySem.Value.type "dict") none (PySem.Data.dict (List.toArray [(PySem.DictEntry.mk (kh P (so "__module__")) (PySem.Value.str (so "__module__") (196 : Nat)) (PySem.Value.str (so "perlcore.errors") (187 : Nat))), (PySem.DictEntry.mk (kh P (so "__firstlineno__")) (PySem.Value.str (so "__firstlineno__") (200 : Nat)) (PySem.Value.int (2 : Int) (199 : Nat))), (PySem.DictEntry.mk (kh P (so "__init__")) (PySem.Value.str (so "__init__") (208 : Nat)) (PySem.Value.ref (28 : Nat))), (PySem.DictEntry.mk (kh P (so "__static_attributes__")) (PySem.Value.str (so "__static_attributes__") (210 : Nat)) (PySem.Value.ref (29 : Nat))), (PySem.DictEntry.mk (kh P (so "__weakref__")) (PySem.Value.str (so "__weakref__") (212 : Nat)) (PySem.Value.ref (32 : Nat))), (PySem.DictEntry.mk (kh P (so "__doc__")) (PySem.Value.str (so "__doc__") (213 : Nat)) PySem.Value.none)]) (3 : Nat)) (List.toArray []))
noncomputable def qo_68 (P : Params) : Obj := (PySem.Obj.mk (PySem.Value.type "type") none (PySem.Data.cls (PySem.ClassData.mk (so "PerlError") [(PySem.Value.type "Exception")] [(PySem.Value.ref (31 : Nat)), (PySem.Value.type "Exception"), (PySem.Value.type "BaseException"), (PySem.Value.type "object")] (30 : Nat) (so "PerlError") Bool.true [] [] Bool.false none Bool.false)) (List.toArray [(some (PySem.Value.ref (15 : Nat))), none, (some (PySem.Value.str (so "PerlError") (189 : Nat))), (some (PySem.Value.str (so "PerlError") (197 : Nat))), (some (PySem.Value.builtin "Exception.__new__")), (some (PySem.Value.bool Bool.true))]))
noncomputable def qo_69 (P : Params) : Obj := (PySem.Obj.mk (PySem.Value.type "getset_descriptor") none (PySem.Data.fields (List.toArray [(PySem.Value.str (so "__weakref__") (211 : Nat)), (PySem.Value.ref (31 : Nat)), (PySem.Value.builtin "ExceptionGroup.__weakref__"), PySem.Value.none])) (List.toArray []))
noncomputable def qo_70 (P : Params) : Obj := (PySem.Obj.mk (PySem.Value.type "super") none (PySem.Data.fields (List.toArray [(PySem.Value.ref (31 : Nat)), (PySem.Value.ref (31 : Nat)), (PySem.Value.ref (31 : Nat))])) (List.toArray []))
noncomputable def qo_71 (P : Params) : Obj := (PySem.Obj.mk (PySem.Value.type "builtin_function_or_method") none (PySem.Data.fields (List.toArray [(PySem.Value.builtin "object.__init_subclass__"), (PySem.Value.ref (31 : Nat))])) (List.toArray []))
noncomputable def qo_72 (P : Params) : Obj := (PySem.Obj.mk (PySem.Value.type "dict") none (PySem.Data.dict (List.toArray [(PySem.DictEntry.mk (kh P (so "__name__")) (PySem.Value.str (so "__name__") (165 : Nat)) (PySem.Value.str (so "perlcore.quotes") (244 : Nat))), (PySem.DictEntry.mk (kh P (so "__doc__")) (PySem.Value.str (so "__doc__") (166 : Nat)) PySem.Value.none), (PySem.DictEntry.mk (kh P (so "__package__")) (PySem.Value.str (so "__package__") (167 : Nat)) PySem.Value.none), (PySem.DictEntry.mk (kh P (so "__loader__")) (PySem.Value.str (so "__loader__") (168 : Nat)) (PySem.Value.builtin "__main__.__loader__#opaque")), (PySem.DictEntry.mk (kh P (so "__spec__")) (PySem.Value.str (so "__spec__") (169 : Nat)) PySem.Value.none), (PySem.DictEntry.mk (kh P (so "__annotations__")) (PySem.Value.str (so "__annotations__") (170 : Nat)) (PySem.Value.ref (6 : Nat))), (PySem.DictEntry.mk (kh P (so "__builtins__")) (PySem.Value.str (so "__builtins__") (171 : Nat)) (PySem.Value.ref (4 : Nat))), (PySem.DictEntry.mk (kh P (so "__file__")) (PySem.Value.str (so "__file__") (173 : Nat)) (PySem.Value.str (so "/claim/cut.py") (172 : Nat))), (PySem.DictEntry.mk (kh P (so "__cached__")) (PySem.Value.str (so "__cached__") (174 : Nat)) PySem.Value.none), (PySem.DictEntry.mk (kh P (so "PerlError")) (PySem.Value.str (so "PerlError") (217 : Nat)) (PySem.Value.ref (31 : Nat))), (PySem.DictEntry.mk (kh P (so "SyntaxDie")) (PySem.Value.str (so "SyntaxDie") (243 : Nat)) (PySem.Value.ref (51 : Nat))), (PySem.DictEntry.mk (kh P (so "CLOSERS")) (PySem.Value.str (so "CLOSERS") (258 : Nat)) (PySem.Value.ref (54 : Nat)))]) (12 : Nat)) (List.toArray []))
noncomputable def qo_73 (P : Params) : Obj := (PySem.Obj.mk PySem.Value.none none (PySem.Data.fields (List.toArray [(PySem.Value.int (2 : Int) (0 : Nat)), (PySem.Value.int (0 : Int) (0 : Nat)), (PySem.Value.ref (20 : Nat)), (PySem.Value.int (7 : Int) (0 : Nat)), (PySem.Value.int (0 : Int) (0 : Nat)), (PySem.Value.ref (40 : Nat))])) (List.toArray []))
noncomputable def qo_74 (P : Params) : Obj := (PySem.Obj.mk (PySem.Value.type "type") none (PySem.Data.cls (PySem.ClassData.mk (so "PerlError") [(PySem.Value.type "Exception")] [(PySem.Value.ref (31 : Nat)), (PySem.Value.type "Exception"), (PySem.Value.type "BaseException"), (PySem.Value.type "object")] (30 : Nat) (so "PerlError") Bool.true [] [(PySem.Value.ref (51 : Nat))] Bool.false none Bool.false)) (List.toArray [(some (PySem.Value.ref (15 : Nat))), none, (some (PySem.Value.str (so "PerlError") (189 : Nat))), (some (PySem.Value.str (so "PerlError") (197 : Nat))), (some (PySem.Value.builtin "Exception.__new__")), (some (PySem.Value.bool Bool.true))]))
noncomputable def qo_75 (P : Params) : Obj := (PySem.Obj.mk (PySem.Value.type "tuple") none (PySem.Data.seq (List.toArray [(PySem.Value.ref (31 : Nat))]) (0 : Nat)) (List.toArray []))
noncomputable def qo_76 (P : Params) : Obj := (PySem.Obj.mk (PySem.Value.type "builtin_function_or_method") none (PySem.Data.fields (List.toArray [(PySem.Value.builtin "type.__prepare__"), (PySem.Value.type "type")])) (List.toArray []))
noncomputable def qo_77 (P : Params) : Obj := (PySem.Obj.mk (PySem.Value.type "dict") none (PySem.Data.dict (List.toArray [(PySem.DictEntry.mk (kh P (so "__module__")) (PySem.Value.str (so "__module__") (225 : Nat)) (PySem.Value.str (so "perlcore.errors") (187 : Nat))), (PySem.DictEntry.mk (kh P (so "__qualname__")) (PySem.Value.str (so "__qualname__") (227 : Nat)) (PySem.Value.str (so "SyntaxDie") (226 : Nat))), (PySem.DictEntry.mk (kh P (so "__firstlineno__")) (PySem.Value.str (so "__firstlineno__") (229 : Nat)) (PySem.Value.int (7 : Int) (228 : Nat))), (PySem.DictEntry.mk (kh P (so "__init__")) (PySem.Value.str (so "__init__") (238 : Nat)) (PySem.Value.ref (48 : Nat))), (PySem.DictEntry.mk (kh P (so "__static_attributes__")) (PySem.Value.str (so "__static_attributes__") (240 : Nat)) (PySem.Value.ref (49 : Nat)))]) (5 : Nat)) (List.toArray []))
noncomputable def qo_78 (P : Params) : Obj := (PySem.Obj.mk (PySem.Value.type "tuple") none (PySem.Data.seq (List.toArray []) (0 : Nat)) (List.toArray []))
noncomputable def qo_79 (P : Params) : Obj := (PySem.Obj.mk PySem.Value.none none (PySem.Data.fields (List.toArray [(PySem.Value.int (9 : Int) (0 : Nat)), (PySem.Value.int (4 : Int) (0 : Nat)), (PySem.Value.ref (47 : Nat))])) (List.toArray []))
noncomputable def qo_80 (P : Params) : Obj := (PySem.Obj.mk (PySem.Value.type "code") none (PySem.Data.fields (List.toArray [(PySem.Value.str (so "SyntaxDie") (220 : Nat)), (PySem.Value.str (so "SyntaxDie") (221 : Nat)), (PySem.Value.str (so "/claim/cut.py") (222 : Nat)), (PySem.Value.int (7 : Int) (0 : Nat)), (PySem.Value.int (0 : Int) (0 : Nat)), (PySem.Value.int (0 : Int) (0 : Nat)), (PySem.Value.int (0 : Int) (0 : Nat)), (PySem.Value.int (0 : Int) (0 : Nat)), (PySem.Value.ref (38 : Nat)), (PySem.Value.bool Bool.false), (PySem.Value.int (181 : Int) (0 : Nat)), (PySem.Value.ref (39 : Nat)), PySem.Value.none, PySem.Value.none, PySem.Value.none, PySem.Value.none, (PySem.Value.int (223 : Int) (0 : Nat)), (PySem.Value.int (7 : Int) (0 : Nat)), (PySem.Value.str (so "/claim/cut.py") (224 : Nat))])) (List.toArray []))
noncomputable def qo_81 (P : Params) : Obj := (PySem.Obj.mk (PySem.Value.type "frame") none PySem.Data.plain (List.toArray [(some (PySem.Value.ref (40 : Nat))), (some (PySem.Value.ref (3 : Nat))), (some (PySem.Value.ref (37 : Nat))), none, (some (PySem.Value.str (so "perlcore.errors") (187 : Nat))), none, (some (PySem.Value.ref (0 : Nat)))]))
noncomputable def qo_82 (P : Params) : Obj := (PySem.Obj.mk (PySem.Value.type "tuple") none (PySem.Data.seq (List.toArray []) (0 : Nat)) (List.toArray []))
noncomputable def qo_83 (P : Params) : Obj := (PySem.Obj.mk PySem.Value.none none (PySem.Data.fields (List.toArray [])) (List.toArray []))
noncomputable def qo_84 (P : Params) : Obj := (PySem.Obj.mk (PySem.Value.type "tuple") none (PySem.Data.seq (List.toArray [(PySem.Value.str (so "self") (233 : Nat)), (PySem.Value.str (so "text") (234 : Nat)), (PySem.Value.str (so "line") (235 : Nat))]) (0 : Nat)) (List.toArray []))
noncomputable def qo_85 (P : Params) : Obj := (PySem.Obj.mk (PySem.Value.type "tuple") none (PySem.Data.seq (List.toArray []) (0 : Nat)) (List.toArray []))
noncomputable def qo_86 (P : Params) : Obj := (PySem.Obj.mk PySem.Value.none none (PySem.Data.func (PySem.FuncData.mk (so "__init__") (so "SyntaxDie.__init__") pa48 (PySem.FuncBody.stmts bo48) sc48 (0 : Nat) (@List.nil (PySem.Str × Nat)) PySem.Value.none PySem.Value.none PySem.Value.none PySem.Value.none none PySem.Value.none PySem.Value.none (0 : Nat))) (List.toArray []))
noncomputable def qo_87 (P : Params) : Obj := (PySem.Obj.mk (PySem.Value.type "code") none (PySem.Data.fields (List.toArray [(PySem.Value.str (so "__init__") (230 : Nat)), (PySem.Value.str (so "SyntaxDie.__init__") (231 : Nat)), (PySem.Value.str (so "/claim/cut.py") (232 : Nat)), (PySem.Value.int (9 : Int) (0 : Nat)), (PySem.Value.int (3 : Int) (0 : Nat)), (PySem.Value.int (0 : Int) (0 : Nat)), (PySem.Value.int (0 : Int) (0 : Nat)), (PySem.Value.int (3 : Int) (0 : Nat)), (PySem.Value.ref (42 : Nat)), (PySem.Value.bool Bool.true), (PySem.Value.int (181 : Int) (0 : Nat)), (PySem.Value.ref (43 : Nat)), PySem.Value.none, (PySem.Value.ref (44 : Nat)), (PySem.Value.ref (45 : Nat)), (PySem.Value.ref (46 : Nat)), (PySem.Value.int (236 : Int) (0 : Nat)), (PySem.Value.int (9 : Int) (0 : Nat)), (PySem.Value.str (so "/claim/cut.py") (237 : Nat))])) (List.toArray []))
noncomputable def qo_88 (P : Params) : Obj := (PySem.Obj.mk (PySem.Value.type "function") none (PySem.Data.func (PySem.FuncData.mk (so "__init__") (so "SyntaxDie.__init__") pa48 (PySem.FuncBody.stmts bo48) sc48 (3 : Nat) (@List.nil (PySem.Str × Nat)) PySem.Value.none PySem.Value.none PySem.Value.none (PySem.Value.str (so "perlcore.errors") (187 : Nat)) none (PySem.Value.ref (47 : Nat)) PySem.Value.none (0 : Nat))) (List.toArray []))
noncomputable def qo_89 (P : Params) : Obj := (PySem.Obj.mk (PySem.Value.type "tuple") none (PySem.Data.seq (List.toArray [(PySem.Value.str (so "line") (239 : Nat))]) (0 : Nat)) (List.toArray []))
noncomputable def qo_90 (P : Params) : Obj := (PySem.Obj.mk (PySem.Value.type "dict") none (PySem.Data.dict (List.toArray [(PySem.DictEntry.mk (kh P (so "__module__")) (PySem.Value.str (so "__module__") (225 : Nat)) (PySem.Value.str (so "perlcore.errors") (187 : Nat))), (PySem.DictEntry.mk (kh P (so "__firstlineno__")) (PySem.Value.str (so "__firstlineno__") (229 : Nat)) (PySem.Value.int (7 : Int) (228 : Nat))), (PySem.DictEntry.mk (kh P (so "__init__")) (PySem.Value.str (so "__init__") (238 : Nat)) (PySem.Value.ref (48 : Nat))), (PySem.DictEntry.mk (kh P (so "__static_attributes__")) (PySem.Value.str (so "__static_attributes__") (240 : Nat)) (PySem.Value.ref (49 : Nat))), (PySem.DictEntry.mk (kh P (so "__doc__")) (PySem.Value.str (so "__doc__") (241 : Nat)) PySem.Value.none)]) (2 : Nat)) (List.toArray []))
noncomputable def qo_91 (P : Params) : Obj := (PySem.Obj.mk (PySem.Value.type "type") none (PySem.Data.cls (PySem.ClassData.mk (so "SyntaxDie") [(PySem.Value.ref (31 : Nat))] [(PySem.Value.ref (51 : Nat)), (PySem.Value.ref (31 : Nat)), (PySem.Value.type "Exception"), (PySem.Value.type "BaseException"), (PySem.Value.type "object")] (50 : Nat) (so "SyntaxDie") Bool.true [] [] Bool.false none Bool.false)) (List.toArray [(some (PySem.Value.ref (35 : Nat))), none, (some (PySem.Value.str (so "SyntaxDie") (218 : Nat))), (some (PySem.Value.str (so "SyntaxDie") (226 : Nat))), (some (PySem.Value.builtin "Exception.__new__")), (some (PySem.Value.bool Bool.true))]))
noncomputable def qo_92 (P : Params) : Obj := (PySem.Obj.mk (PySem.Value.type "super") none (PySem.Data.fields (List.toArray [(PySem.Value.ref (51 : Nat)), (PySem.Value.ref (51 : Nat)), (PySem.Value.ref (51 : Nat))])) (List.toArray []))
noncomputable def qo_93 (P : Params) : Obj := (PySem.Obj.mk (PySem.Value.type "builtin_function_or_method") none (PySem.Data.fields (List.toArray [(PySem.Value.builtin "object.__init_subclass__"), (PySem.Value.ref (51 : Nat))])) (List.toArray []))
noncomputable def qo_94 (P : Params) : Obj := (PySem.Obj.mk (PySem.Value.type "dict") none (PySem.Data.dict (List.toArray [(PySem.DictEntry.mk (kh P (so "(")) (PySem.Value.str (so "(") (246 : Nat)) (PySem.Value.str (so ")") (247 : Nat))), (PySem.DictEntry.mk (kh P (so "[")) (PySem.Value.str (so "[") (248 : Nat)) (PySem.Value.str (so "]") (249 : Nat))), (PySem.DictEntry.mk (kh P (so "{")) (PySem.Value.str (so "{") (250 : Nat)) (PySem.Value.str (so "}") (251 : Nat))), (PySem.DictEntry.mk (kh P (so "<")) (PySem.Value.str (so "<") (252 : Nat)) (PySem.Value.str (so ">") (253 : Nat)))]) (4 : Nat)) (List.toArray []))
noncomputable def qo_97 (P : Params) : Obj := (PySem.Obj.mk (PySem.Value.type "dict") none (PySem.Data.dict (List.toArray [(PySem.DictEntry.mk (kh P (so "__name__")) (PySem.Value.str (so "__name__") (165 : Nat)) (PySem.Value.str (so "perlcore.quotes") (244 : Nat))), (PySem.DictEntry.mk (kh P (so "__doc__")) (PySem.Value.str (so "__doc__") (166 : Nat)) PySem.Value.none), (PySem.DictEntry.mk (kh P (so "__package__")) (PySem.Value.str (so "__package__") (167 : Nat)) PySem.Value.none), (PySem.DictEntry.mk (kh P (so "__loader__")) (PySem.Value.str (so "__loader__") (168 : Nat)) (PySem.Value.builtin "__main__.__loader__#opaque")), (PySem.DictEntry.mk (kh P (so "__spec__")) (PySem.Value.str (so "__spec__") (169 : Nat)) PySem.Value.none), (PySem.DictEntry.mk (kh P (so "__annotations__")) (PySem.Value.str (so "__annotations__") (170 : Nat)) (PySem.Value.ref (6 : Nat))), (PySem.DictEntry.mk (kh P (so "__builtins__")) (PySem.Value.str (so "__builtins__") (171 : Nat)) (PySem.Value.ref (4 : Nat))), (PySem.DictEntry.mk (kh P (so "__file__")) (PySem.Value.str (so "__file__") (173 : Nat)) (PySem.Value.str (so "/claim/cut.py") (172 : Nat))), (PySem.DictEntry.mk (kh P (so "__cached__")) (PySem.Value.str (so "__cached__") (174 : Nat)) PySem.Value.none), (PySem.DictEntry.mk (kh P (so "PerlError")) (PySem.Value.str (so "PerlError") (217 : Nat)) (PySem.Value.ref (31 : Nat))), (PySem.DictEntry.mk (kh P (so "SyntaxDie")) (PySem.Value.str (so "SyntaxDie") (243 : Nat)) (PySem.Value.ref (51 : Nat))), (PySem.DictEntry.mk (kh P (so "CLOSERS")) (PySem.Value.str (so "CLOSERS") (258 : Nat)) (PySem.Value.ref (54 : Nat))), (PySem.DictEntry.mk (kh P (so "SHORT_ESCAPES")) (PySem.Value.str (so "SHORT_ESCAPES") (280 : Nat)) (PySem.Value.ref (55 : Nat))), (PySem.DictEntry.mk (kh P (so "CODE_FIGURES")) (PySem.Value.str (so "CODE_FIGURES") (282 : Nat)) (PySem.Value.str (so "0123456789abcdef") (281 : Nat))), (PySem.DictEntry.mk (kh P (so "TOP_CODE")) (PySem.Value.str (so "TOP_CODE") (284 : Nat)) (PySem.Value.int (1114111 : Int) (283 : Nat))), (PySem.DictEntry.mk (kh P (so "closer_of")) (PySem.Value.str (so "closer_of") (291 : Nat)) (PySem.Value.ref (62 : Nat))), (PySem.DictEntry.mk (kh P (so "line_of_place")) (PySem.Value.str (so "line_of_place") (299 : Nat)) (PySem.Value.ref (69 : Nat))), (PySem.DictEntry.mk (kh P (so "delimited")) (PySem.Value.str (so "delimited") (312 : Nat)) (PySem.Value.ref (76 : Nat))), (PySem.DictEntry.mk (kh P (so "unguarded")) (PySem.Value.str (so "unguarded") (325 : Nat)) (PySem.Value.ref (83 : Nat))), (PySem.DictEntry.mk (kh P (so "read_q")) (PySem.Value.str (so "read_q") (333 : Nat)) (PySem.Value.ref (90 : Nat))), (PySem.DictEntry.mk (kh P (so "digits_value")) (PySem.Value.str (so "digits_value") (346 : Nat)) (PySem.Value.ref (97 : Nat))), (PySem.DictEntry.mk (kh P (so "coded_sign")) (PySem.Value.str (so "coded_sign") (353 : Nat)) (PySem.Value.ref (104 : Nat))), (PySem.DictEntry.mk (kh P (so "braced_code")) (PySem.Value.str (so "braced_code") (365 : Nat)) (PySem.Value.ref (111 : Nat)))]) (23 : Nat)) (List.toArray []))
noncomputable def qo_98 (P : Params) : Obj := (PySem.Obj.mk PySem.Value.none none (PySem.Data.fields (List.toArray ((PySem.Value.int (2 : Int) (0 : Nat)) :: (PySem.Value.int (0 : Int) (0 : Nat)) :: (PySem.Value.ref (20 : Nat)) :: (PySem.Value.int (7 : Int) (0 : Nat)) :: (PySem.Value.int (0 : Int) (0 : Nat)) :: (PySem.Value.ref (40 : Nat)) :: (PySem.Value.int (17 : Int) (0 : Nat)) :: (PySem.Value.int (0 : Int) (0 : Nat)) :: (PySem.Value.ref (61 : Nat)) :: (PySem.Value.int (19 : Int) (0 : Nat)) :: (PySem.Value.int (0 : Int) (0 : Nat)) :: (PySem.Value.ref (68 : Nat)) :: (PySem.Value.int (21 : Int) (0 : Nat)) :: (PySem.Value.int (0 : Int) (0 : Nat)) :: (PySem.Value.ref (75 : Nat)) :: (PySem.Value.int (39 : Int) (0 : Nat)) :: (PySem.Value.int (0 : Int) (0 : Nat)) :: (PySem.Value.ref (82 : Nat)) :: (PySem.Value.int (55 : Int) (0 : Nat)) :: (PySem.Value.int (0 : Int) (0 : Nat)) :: (PySem.Value.ref (89 : Nat)) :: (PySem.Value.int (57 : Int) (0 : Nat)) :: (PySem.Value.int (0 : Int) (0 : Nat)) :: (PySem.Value.ref (96 : Nat)) :: (PySem.Value.int (67 : Int) (0 : Nat)) :: (PySem.Value.int (0 : Int) (0 : Nat)) :: (PySem.Value.ref (103 : Nat)) :: (PySem.Value.int (71 : Int) (0 : Nat)) :: (PySem.Value.int (0 : Int) (0 : Nat)) :: (PySem.Value.ref (110 : Nat)) :: []))) (List.toArray []))
noncomputable def qo_99 (P : Params) : Obj := (PySem.Obj.mk (PySem.Value.type "dict") none (PySem.Data.dict (List.toArray [(PySem.DictEntry.mk (kh P (so "n")) (PySem.Value.str (so "n") (259 : Nat)) (PySem.Value.str (so "\n") (260 : Nat))), (PySem.DictEntry.mk (kh P (so "t")) (PySem.Value.str (so "t") (261 : Nat)) (PySem.Value.str (so "\t") (262 : Nat))), (PySem.DictEntry.mk (kh P (so "r")) (PySem.Value.str (so "r") (263 : Nat)) (PySem.Value.str (so "\x0d") (264 : Nat))), (PySem.DictEntry.mk (kh P (so "f")) (PySem.Value.str (so "f") (265 : Nat)) (PySem.Value.str (so "\x0c") (266 : Nat))), (PySem.DictEntry.mk (kh P (so "b")) (PySem.Value.str (so "b") (267 : Nat)) (PySem.Value.str (so "\x08") (268 : Nat))), (PySem.DictEntry.mk (kh P (so "a")) (PySem.Value.str (so "a") (269 : Nat)) (PySem.Value.str (so "\x07") (270 : Nat))), (PySem.DictEntry.mk (kh P (so "e")) (PySem.Value.str (so "e") (271 : Nat)) (PySem.Value.str (so "\x1b") (272 : Nat)))]) (7 : Nat)) (List.toArray []))
noncomputable def qo_100 (P : Params) : Obj := (PySem.Obj.mk (PySem.Value.type "tuple") none (PySem.Data.seq (List.toArray []) (0 : Nat)) (List.toArray []))
noncomputable def qo_101 (P : Params) : Obj := (PySem.Obj.mk PySem.Value.none none (PySem.Data.fields (List.toArray [])) (List.toArray []))
noncomputable def qo_102 (P : Params) : Obj := (PySem.Obj.mk (PySem.Value.type "tuple") none (PySem.Data.seq (List.toArray [(PySem.Value.str (so "opening") (288 : Nat))]) (0 : Nat)) (List.toArray []))
noncomputable def qo_103 (P : Params) : Obj := (PySem.Obj.mk (PySem.Value.type "tuple") none (PySem.Data.seq (List.toArray []) (0 : Nat)) (List.toArray []))
noncomputable def qo_104 (P : Params) : Obj := (PySem.Obj.mk PySem.Value.none none (PySem.Data.func (PySem.FuncData.mk (so "closer_of") (so "closer_of") pa62 (PySem.FuncBody.stmts bo62) sc62 (0 : Nat) (@List.nil (PySem.Str × Nat)) PySem.Value.none PySem.Value.none PySem.Value.none PySem.Value.none none PySem.Value.none PySem.Value.none (0 : Nat))) (List.toArray []))
noncomputable def qo_105 (P : Params) : Obj := (PySem.Obj.mk (PySem.Value.type "code") none (PySem.Data.fields (List.toArray [(PySem.Value.str (so "closer_of") (285 : Nat)), (PySem.Value.str (so "closer_of") (286 : Nat)), (PySem.Value.str (so "/claim/cut.py") (287 : Nat)), (PySem.Value.int (17 : Int) (0 : Nat)), (PySem.Value.int (1 : Int) (0 : Nat)), (PySem.Value.int (0 : Int) (0 : Nat)), (PySem.Value.int (0 : Int) (0 : Nat)), (PySem.Value.int (3 : Int) (0 : Nat)), (PySem.Value.ref (56 : Nat)), (PySem.Value.bool Bool.true), (PySem.Value.int (181 : Int) (0 : Nat)), (PySem.Value.ref (57 : Nat)), PySem.Value.none, (PySem.Value.ref (58 : Nat)), (PySem.Value.ref (59 : Nat)), (PySem.Value.ref (60 : Nat)), (PySem.Value.int (289 : Int) (0 : Nat)), (PySem.Value.int (17 : Int) (0 : Nat)), (PySem.Value.str (so "/claim/cut.py") (290 : Nat))])) (List.toArray []))
noncomputable def qo_106 (P : Params) : Obj := (PySem.Obj.mk (PySem.Value.type "function") none (PySem.Data.func (PySem.FuncData.mk (so "closer_of") (so "closer_of") pa62 (PySem.FuncBody.stmts bo62) sc62 (3 : Nat) (@List.nil (PySem.Str × Nat)) PySem.Value.none PySem.Value.none PySem.Value.none (PySem.Value.str (so "perlcore.quotes") (244 : Nat)) none (PySem.Value.ref (61 : Nat)) PySem.Value.none (0 : Nat))) (List.toArray []))
noncomputable def qo_107 (P : Params) : Obj := (PySem.Obj.mk (PySem.Value.type "tuple") none (PySem.Data.seq (List.toArray []) (0 : Nat)) (List.toArray []))
noncomputable def qo_108 (P : Params) : Obj := (PySem.Obj.mk PySem.Value.none none (PySem.Data.fields (List.toArray [])) (List.toArray []))
noncomputable def qo_109 (P : Params) : Obj := (PySem.Obj.mk (PySem.Value.type "tuple") none (PySem.Data.seq (List.toArray [(PySem.Value.str (so "text") (295 : Nat)), (PySem.Value.str (so "at") (296 : Nat))]) (0 : Nat)) (List.toArray []))
noncomputable def qo_110 (P : Params) : Obj := (PySem.Obj.mk (PySem.Value.type "tuple") none (PySem.Data.seq (List.toArray []) (0 : Nat)) (List.toArray []))
noncomputable def qo_111 (P : Params) : Obj := (PySem.Obj.mk PySem.Value.none none (PySem.Data.func (PySem.FuncData.mk (so "line_of_place") (so "line_of_place") pa69 (PySem.FuncBody.stmts bo69) sc69 (0 : Nat) (@List.nil (PySem.Str × Nat)) PySem.Value.none PySem.Value.none PySem.Value.none PySem.Value.none none PySem.Value.none PySem.Value.none (0 : Nat))) (List.toArray []))
noncomputable def qo_112 (P : Params) : Obj := (PySem.Obj.mk (PySem.Value.type "code") none (PySem.Data.fields (List.toArray [(PySem.Value.str (so "line_of_place") (292 : Nat)), (PySem.Value.str (so "line_of_place") (293 : Nat)), (PySem.Value.str (so "/claim/cut.py") (294 : Nat)), (PySem.Value.int (19 : Int) (0 : Nat)), (PySem.Value.int (2 : Int) (0 : Nat)), (PySem.Value.int (0 : Int) (0 : Nat)), (PySem.Value.int (0 : Int) (0 : Nat)), (PySem.Value.int (3 : Int) (0 : Nat)), (PySem.Value.ref (63 : Nat)), (PySem.Value.bool Bool.true), (PySem.Value.int (181 : Int) (0 : Nat)), (PySem.Value.ref (64 : Nat)), PySem.Value.none, (PySem.Value.ref (65 : Nat)), (PySem.Value.ref (66 : Nat)), (PySem.Value.ref (67 : Nat)), (PySem.Value.int (297 : Int) (0 : Nat)), (PySem.Value.int (19 : Int) (0 : Nat)), (PySem.Value.str (so "/claim/cut.py") (298 : Nat))])) (List.toArray []))
noncomputable def qo_113 (P : Params) : Obj := (PySem.Obj.mk (PySem.Value.type "function") none (PySem.Data.func (PySem.FuncData.mk (so "line_of_place") (so "line_of_place") pa69 (PySem.FuncBody.stmts bo69) sc69 (3 : Nat) (@List.nil (PySem.Str × Nat)) PySem.Value.none PySem.Value.none PySem.Value.none (PySem.Value.str (so "perlcore.quotes") (244 : Nat)) none (PySem.Value.ref (68 : Nat)) PySem.Value.none (0 : Nat))) (List.toArray []))
noncomputable def qo_114 (P : Params) : Obj := (PySem.Obj.mk (PySem.Value.type "tuple") none (PySem.Data.seq (List.toArray []) (0 : Nat)) (List.toArray []))
noncomputable def qo_115 (P : Params) : Obj := (PySem.Obj.mk PySem.Value.none none (PySem.Data.fields (List.toArray [])) (List.toArray []))
noncomputable def qo_116 (P : Params) : Obj := (PySem.Obj.mk (PySem.Value.type "tuple") none (PySem.Data.seq (List.toArray [(PySem.Value.str (so "text") (303 : Nat)), (PySem.Value.str (so "at") (304 : Nat)), (PySem.Value.str (so "opening") (305 : Nat)), (PySem.Value.str (so "closing") (306 : Nat)), (PySem.Value.str (so "depth") (307 : Nat)), (PySem.Value.str (so "end") (308 : Nat)), (PySem.Value.str (so "sign") (309 : Nat))]) (0 : Nat)) (List.toArray []))
noncomputable def qo_117 (P : Params) : Obj := (PySem.Obj.mk (PySem.Value.type "tuple") none (PySem.Data.seq (List.toArray []) (0 : Nat)) (List.toArray []))
noncomputable def qo_118 (P : Params) : Obj := (PySem.Obj.mk PySem.Value.none none (PySem.Data.func (PySem.FuncData.mk (so "delimited") (so "delimited") pa76 (PySem.FuncBody.stmts bo76) sc76 (0 : Nat) (@List.nil (PySem.Str × Nat)) PySem.Value.none PySem.Value.none PySem.Value.none PySem.Value.none none PySem.Value.none PySem.Value.none (0 : Nat))) (List.toArray []))
noncomputable def qo_119 (P : Params) : Obj := (PySem.Obj.mk (PySem.Value.type "code") none (PySem.Data.fields (List.toArray [(PySem.Value.str (so "delimited") (300 : Nat)), (PySem.Value.str (so "delimited") (301 : Nat)), (PySem.Value.str (so "/claim/cut.py") (302 : Nat)), (PySem.Value.int (21 : Int) (0 : Nat)), (PySem.Value.int (2 : Int) (0 : Nat)), (PySem.Value.int (0 : Int) (0 : Nat)), (PySem.Value.int (0 : Int) (0 : Nat)), (PySem.Value.int (3 : Int) (0 : Nat)), (PySem.Value.ref (70 : Nat)), (PySem.Value.bool Bool.true), (PySem.Value.int (181 : Int) (0 : Nat)), (PySem.Value.ref (71 : Nat)), PySem.Value.none, (PySem.Value.ref (72 : Nat)), (PySem.Value.ref (73 : Nat)), (PySem.Value.ref (74 : Nat)), (PySem.Value.int (310 : Int) (0 : Nat)), (PySem.Value.int (21 : Int) (0 : Nat)), (PySem.Value.str (so "/claim/cut.py") (311 : Nat))])) (List.toArray []))
noncomputable def qo_120 (P : Params) : Obj := (PySem.Obj.mk (PySem.Value.type "function") none (PySem.Data.func (PySem.FuncData.mk (so "delimited") (so "delimited") pa76 (PySem.FuncBody.stmts bo76) sc76 (3 : Nat) (@List.nil (PySem.Str × Nat)) PySem.Value.none PySem.Value.none PySem.Value.none (PySem.Value.str (so "perlcore.quotes") (244 : Nat)) none (PySem.Value.ref (75 : Nat)) PySem.Value.none (0 : Nat))) (List.toArray []))
noncomputable def qo_121 (P : Params) : Obj := (PySem.Obj.mk (PySem.Value.type "tuple") none (PySem.Data.seq (List.toArray []) (0 : Nat)) (List.toArray []))
noncomputable def qo_122 (P : Params) : Obj := (PySem.Obj.mk PySem.Value.none none (PySem.Data.fields (List.toArray [])) (List.toArray []))
noncomputable def qo_123 (P : Params) : Obj := (PySem.Obj.mk (PySem.Value.type "tuple") none (PySem.Data.seq (List.toArray [(PySem.Value.str (so "inner") (316 : Nat)), (PySem.Value.str (so "opening") (317 : Nat)), (PySem.Value.str (so "is_plain") (318 : Nat)), (PySem.Value.str (so "closing") (319 : Nat)), (PySem.Value.str (so "out") (320 : Nat)), (PySem.Value.str (so "at") (321 : Nat)), (PySem.Value.str (so "follower") (322 : Nat))]) (0 : Nat)) (List.toArray []))
noncomputable def qo_124 (P : Params) : Obj := (PySem.Obj.mk (PySem.Value.type "tuple") none (PySem.Data.seq (List.toArray []) (0 : Nat)) (List.toArray []))
noncomputable def qo_125 (P : Params) : Obj := (PySem.Obj.mk PySem.Value.none none (PySem.Data.func (PySem.FuncData.mk (so "unguarded") (so "unguarded") pa83 (PySem.FuncBody.stmts bo83) sc83 (0 : Nat) (@List.nil (PySem.Str × Nat)) PySem.Value.none PySem.Value.none PySem.Value.none PySem.Value.none none PySem.Value.none PySem.Value.none (0 : Nat))) (List.toArray []))
noncomputable def qo_126 (P : Params) : Obj := (PySem.Obj.mk (PySem.Value.type "code") none (PySem.Data.fields (List.toArray [(PySem.Value.str (so "unguarded") (313 : Nat)), (PySem.Value.str (so "unguarded") (314 : Nat)), (PySem.Value.str (so "/claim/cut.py") (315 : Nat)), (PySem.Value.int (39 : Int) (0 : Nat)), (PySem.Value.int (3 : Int) (0 : Nat)), (PySem.Value.int (0 : Int) (0 : Nat)), (PySem.Value.int (0 : Int) (0 : Nat)), (PySem.Value.int (3 : Int) (0 : Nat)), (PySem.Value.ref (77 : Nat)), (PySem.Value.bool Bool.true), (PySem.Value.int (181 : Int) (0 : Nat)), (PySem.Value.ref (78 : Nat)), PySem.Value.none, (PySem.Value.ref (79 : Nat)), (PySem.Value.ref (80 : Nat)), (PySem.Value.ref (81 : Nat)), (PySem.Value.int (323 : Int) (0 : Nat)), (PySem.Value.int (39 : Int) (0 : Nat)), (PySem.Value.str (so "/claim/cut.py") (324 : Nat))])) (List.toArray []))
noncomputable def qo_127 (P : Params) : Obj := (PySem.Obj.mk (PySem.Value.type "function") none (PySem.Data.func (PySem.FuncData.mk (so "unguarded") (so "unguarded") pa83 (PySem.FuncBody.stmts bo83) sc83 (3 : Nat) (@List.nil (PySem.Str × Nat)) PySem.Value.none PySem.Value.none PySem.Value.none (PySem.Value.str (so "perlcore.quotes") (244 : Nat)) none (PySem.Value.ref (82 : Nat)) PySem.Value.none (0 : Nat))) (List.toArray []))
noncomputable def qo_128 (P : Params) : Obj := (PySem.Obj.mk (PySem.Value.type "tuple") none (PySem.Data.seq (List.toArray []) (0 : Nat)) (List.toArray []))
noncomputable def qo_129 (P : Params) : Obj := (PySem.Obj.mk PySem.Value.none none (PySem.Data.fields (List.toArray [])) (List.toArray []))
noncomputable def qo_130 (P : Params) : Obj := (PySem.Obj.mk (PySem.Value.type "tuple") none (PySem.Data.seq (List.toArray [(PySem.Value.str (so "inner") (329 : Nat)), (PySem.Value.str (so "opening") (330 : Nat))]) (0 : Nat)) (List.toArray []))
noncomputable def qo_131 (P : Params) : Obj := (PySem.Obj.mk (PySem.Value.type "tuple") none (PySem.Data.seq (List.toArray []) (0 : Nat)) (List.toArray []))
noncomputable def qo_132 (P : Params) : Obj := (PySem.Obj.mk PySem.Value.none none (PySem.Data.func (PySem.FuncData.mk (so "read_q") (so "read_q") pa90 (PySem.FuncBody.stmts bo90) sc90 (0 : Nat) (@List.nil (PySem.Str × Nat)) PySem.Value.none PySem.Value.none PySem.Value.none PySem.Value.none none PySem.Value.none PySem.Value.none (0 : Nat))) (List.toArray []))
noncomputable def qo_133 (P : Params) : Obj := (PySem.Obj.mk (PySem.Value.type "code") none (PySem.Data.fields (List.toArray [(PySem.Value.str (so "read_q") (326 : Nat)), (PySem.Value.str (so "read_q") (327 : Nat)), (PySem.Value.str (so "/claim/cut.py") (328 : Nat)), (PySem.Value.int (55 : Int) (0 : Nat)), (PySem.Value.int (2 : Int) (0 : Nat)), (PySem.Value.int (0 : Int) (0 : Nat)), (PySem.Value.int (0 : Int) (0 : Nat)), (PySem.Value.int (3 : Int) (0 : Nat)), (PySem.Value.ref (84 : Nat)), (PySem.Value.bool Bool.true), (PySem.Value.int (181 : Int) (0 : Nat)), (PySem.Value.ref (85 : Nat)), PySem.Value.none, (PySem.Value.ref (86 : Nat)), (PySem.Value.ref (87 : Nat)), (PySem.Value.ref (88 : Nat)), (PySem.Value.int (331 : Int) (0 : Nat)), (PySem.Value.int (55 : Int) (0 : Nat)), (PySem.Value.str (so "/claim/cut.py") (332 : Nat))])) (List.toArray []))
noncomputable def qo_134 (P : Params) : Obj := (PySem.Obj.mk (PySem.Value.type "function") none (PySem.Data.func (PySem.FuncData.mk (so "read_q") (so "read_q") pa90 (PySem.FuncBody.stmts bo90) sc90 (3 : Nat) (@List.nil (PySem.Str × Nat)) PySem.Value.none PySem.Value.none PySem.Value.none (PySem.Value.str (so "perlcore.quotes") (244 : Nat)) none (PySem.Value.ref (89 : Nat)) PySem.Value.none (0 : Nat))) (List.toArray []))
noncomputable def qo_135 (P : Params) : Obj := (PySem.Obj.mk (PySem.Value.type "tuple") none (PySem.Data.seq (List.toArray []) (0 : Nat)) (List.toArray []))
noncomputable def qo_136 (P : Params) : Obj := (PySem.Obj.mk PySem.Value.none none (PySem.Data.fields (List.toArray [])) (List.toArray []))
noncomputable def qo_137 (P : Params) : Obj := (PySem.Obj.mk (PySem.Value.type "tuple") none (PySem.Data.seq (List.toArray [(PySem.Value.str (so "text") (337 : Nat)), (PySem.Value.str (so "at") (338 : Nat)), (PySem.Value.str (so "most") (339 : Nat)), (PySem.Value.str (so "base") (340 : Nat)), (PySem.Value.str (so "value") (341 : Nat)), (PySem.Value.str (so "end") (342 : Nat)), (PySem.Value.str (so "digit") (343 : Nat))]) (0 : Nat)) (List.toArray []))
noncomputable def qo_138 (P : Params) : Obj := (PySem.Obj.mk (PySem.Value.type "tuple") none (PySem.Data.seq (List.toArray []) (0 : Nat)) (List.toArray []))
noncomputable def qo_139 (P : Params) : Obj := (PySem.Obj.mk PySem.Value.none none (PySem.Data.func (PySem.FuncData.mk (so "digits_value") (so "digits_value") pa97 (PySem.FuncBody.stmts bo97) sc97 (0 : Nat) (@List.nil (PySem.Str × Nat)) PySem.Value.none PySem.Value.none PySem.Value.none PySem.Value.none none PySem.Value.none PySem.Value.none (0 : Nat))) (List.toArray []))
noncomputable def qo_140 (P : Params) : Obj := (PySem.Obj.mk (PySem.Value.type "code") none (PySem.Data.fields (List.toArray [(PySem.Value.str (so "digits_value") (334 : Nat)), (PySem.Value.str (so "digits_value") (335 : Nat)), (PySem.Value.str (so "/claim/cut.py") (336 : Nat)), (PySem.Value.int (57 : Int) (0 : Nat)), (PySem.Value.int (4 : Int) (0 : Nat)), (PySem.Value.int (0 : Int) (0 : Nat)), (PySem.Value.int (0 : Int) (0 : Nat)), (PySem.Value.int (3 : Int) (0 : Nat)), (PySem.Value.ref (91 : Nat)), (PySem.Value.bool Bool.true), (PySem.Value.int (181 : Int) (0 : Nat)), (PySem.Value.ref (92 : Nat)), PySem.Value.none, (PySem.Value.ref (93 : Nat)), (PySem.Value.ref (94 : Nat)), (PySem.Value.ref (95 : Nat)), (PySem.Value.int (344 : Int) (0 : Nat)), (PySem.Value.int (57 : Int) (0 : Nat)), (PySem.Value.str (so "/claim/cut.py") (345 : Nat))])) (List.toArray []))
noncomputable def qo_141 (P : Params) : Obj := (PySem.Obj.mk (PySem.Value.type "function") none (PySem.Data.func (PySem.FuncData.mk (so "digits_value") (so "digits_value") pa97 (PySem.FuncBody.stmts bo97) sc97 (3 : Nat) (@List.nil (PySem.Str × Nat)) PySem.Value.none PySem.Value.none PySem.Value.none (PySem.Value.str (so "perlcore.quotes") (244 : Nat)) none (PySem.Value.ref (96 : Nat)) PySem.Value.none (0 : Nat))) (List.toArray []))
noncomputable def qo_142 (P : Params) : Obj := (PySem.Obj.mk (PySem.Value.type "tuple") none (PySem.Data.seq (List.toArray []) (0 : Nat)) (List.toArray []))
noncomputable def qo_143 (P : Params) : Obj := (PySem.Obj.mk PySem.Value.none none (PySem.Data.fields (List.toArray [])) (List.toArray []))
noncomputable def qo_144 (P : Params) : Obj := (PySem.Obj.mk (PySem.Value.type "tuple") none (PySem.Data.seq (List.toArray [(PySem.Value.str (so "code") (350 : Nat))]) (0 : Nat)) (List.toArray []))
noncomputable def qo_145 (P : Params) : Obj := (PySem.Obj.mk (PySem.Value.type "tuple") none (PySem.Data.seq (List.toArray []) (0 : Nat)) (List.toArray []))
noncomputable def qo_146 (P : Params) : Obj := (PySem.Obj.mk PySem.Value.none none (PySem.Data.func (PySem.FuncData.mk (so "coded_sign") (so "coded_sign") pa104 (PySem.FuncBody.stmts bo104) sc104 (0 : Nat) (@List.nil (PySem.Str × Nat)) PySem.Value.none PySem.Value.none PySem.Value.none PySem.Value.none none PySem.Value.none PySem.Value.none (0 : Nat))) (List.toArray []))
noncomputable def qo_147 (P : Params) : Obj := (PySem.Obj.mk (PySem.Value.type "code") none (PySem.Data.fields (List.toArray [(PySem.Value.str (so "coded_sign") (347 : Nat)), (PySem.Value.str (so "coded_sign") (348 : Nat)), (PySem.Value.str (so "/claim/cut.py") (349 : Nat)), (PySem.Value.int (67 : Int) (0 : Nat)), (PySem.Value.int (1 : Int) (0 : Nat)), (PySem.Value.int (0 : Int) (0 : Nat)), (PySem.Value.int (0 : Int) (0 : Nat)), (PySem.Value.int (3 : Int) (0 : Nat)), (PySem.Value.ref (98 : Nat)), (PySem.Value.bool Bool.true), (PySem.Value.int (181 : Int) (0 : Nat)), (PySem.Value.ref (99 : Nat)), PySem.Value.none, (PySem.Value.ref (100 : Nat)), (PySem.Value.ref (101 : Nat)), (PySem.Value.ref (102 : Nat)), (PySem.Value.int (351 : Int) (0 : Nat)), (PySem.Value.int (67 : Int) (0 : Nat)), (PySem.Value.str (so "/claim/cut.py") (352 : Nat))])) (List.toArray []))
noncomputable def qo_148 (P : Params) : Obj := (PySem.Obj.mk (PySem.Value.type "function") none (PySem.Data.func (PySem.FuncData.mk (so "coded_sign") (so "coded_sign") pa104 (PySem.FuncBody.stmts bo104) sc104 (3 : Nat) (@List.nil (PySem.Str × Nat)) PySem.Value.none PySem.Value.none PySem.Value.none (PySem.Value.str (so "perlcore.quotes") (244 : Nat)) none (PySem.Value.ref (103 : Nat)) PySem.Value.none (0 : Nat))) (List.toArray []))
noncomputable def qo_149 (P : Params) : Obj := (PySem.Obj.mk (PySem.Value.type "tuple") none (PySem.Data.seq (List.toArray []) (0 : Nat)) (List.toArray []))
noncomputable def qo_150 (P : Params) : Obj := (PySem.Obj.mk PySem.Value.none none (PySem.Data.fields (List.toArray [])) (List.toArray []))
noncomputable def qo_151 (P : Params) : Obj := (PySem.Obj.mk (PySem.Value.type "tuple") none (PySem.Data.seq (List.toArray [(PySem.Value.str (so "text") (357 : Nat)), (PySem.Value.str (so "at") (358 : Nat)), (PySem.Value.str (so "base") (359 : Nat)), (PySem.Value.str (so "end") (360 : Nat)), (PySem.Value.str (so "value") (361 : Nat)), (PySem.Value.str (so "behind") (362 : Nat))]) (0 : Nat)) (List.toArray []))
noncomputable def qo_152 (P : Params) : Obj := (PySem.Obj.mk (PySem.Value.type "tuple") none (PySem.Data.seq (List.toArray []) (0 : Nat)) (List.toArray []))
noncomputable def qo_153 (P : Params) : Obj := (PySem.Obj.mk PySem.Value.none none (PySem.Data.func (PySem.FuncData.mk (so "braced_code") (so "braced_code") pa111 (PySem.FuncBody.stmts bo111) sc111 (0 : Nat) (@List.nil (PySem.Str × Nat)) PySem.Value.none PySem.Value.none PySem.Value.none PySem.Value.none none PySem.Value.none PySem.Value.none (0 : Nat))) (List.toArray []))
noncomputable def qo_154 (P : Params) : Obj := (PySem.Obj.mk (PySem.Value.type "code") none (PySem.Data.fields (List.toArray [(PySem.Value.str (so "braced_code") (354 : Nat)), (PySem.Value.str (so "braced_code") (355 : Nat)), (PySem.Value.str (so "/claim/cut.py") (356 : Nat)), (PySem.Value.int (71 : Int) (0 : Nat)), (PySem.Value.int (3 : Int) (0 : Nat)), (PySem.Value.int (0 : Int) (0 : Nat)), (PySem.Value.int (0 : Int) (0 : Nat)), (PySem.Value.int (3 : Int) (0 : Nat)), (PySem.Value.ref (105 : Nat)), (PySem.Value.bool Bool.true), (PySem.Value.int (181 : Int) (0 : Nat)), (PySem.Value.ref (106 : Nat)), PySem.Value.none, (PySem.Value.ref (107 : Nat)), (PySem.Value.ref (108 : Nat)), (PySem.Value.ref (109 : Nat)), (PySem.Value.int (363 : Int) (0 : Nat)), (PySem.Value.int (71 : Int) (0 : Nat)), (PySem.Value.str (so "/claim/cut.py") (364 : Nat))])) (List.toArray []))
noncomputable def qo_155 (P : Params) : Obj := (PySem.Obj.mk (PySem.Value.type "function") none (PySem.Data.func (PySem.FuncData.mk (so "braced_code") (so "braced_code") pa111 (PySem.FuncBody.stmts bo111) sc111 (3 : Nat) (@List.nil (PySem.Str × Nat)) PySem.Value.none PySem.Value.none PySem.Value.none (PySem.Value.str (so "perlcore.quotes") (244 : Nat)) none (PySem.Value.ref (110 : Nat)) PySem.Value.none (0 : Nat))) (List.toArray []))
noncomputable def qo_158 (P : Params) : Obj := (PySem.Obj.mk (PySem.Value.type "dict") none (PySem.Data.dict (List.toArray ((PySem.DictEntry.mk (kh P (so "__name__")) (PySem.Value.str (so "__name__") (165 : Nat)) (PySem.Value.str (so "perlcore.interp") (435 : Nat))) :: (PySem.DictEntry.mk (kh P (so "__doc__")) (PySem.Value.str (so "__doc__") (166 : Nat)) PySem.Value.none) :: (PySem.DictEntry.mk (kh P (so "__package__")) (PySem.Value.str (so "__package__") (167 : Nat)) PySem.Value.none) :: (PySem.DictEntry.mk (kh P (so "__loader__")) (PySem.Value.str (so "__loader__") (168 : Nat)) (PySem.Value.builtin "__main__.__loader__#opaque")) :: (PySem.DictEntry.mk (kh P (so "__spec__")) (PySem.Value.str (so "__spec__") (169 : Nat)) PySem.Value.none) :: (PySem.DictEntry.mk (kh P (so "__annotations__")) (PySem.Value.str (so "__annotations__") (170 : Nat)) (PySem.Value.ref (6 : Nat))) :: (PySem.DictEntry.mk (kh P (so "__builtins__")) (PySem.Value.str (so "__builtins__") (171 : Nat)) (PySem.Value.ref (4 : Nat))) :: (PySem.DictEntry.mk (kh P (so "__file__")) (PySem.Value.str (so "__file__") (173 : Nat)) (PySem.Value.str (so "/claim/cut.py") (172 : Nat))) :: (PySem.DictEntry.mk (kh P (so "__cached__")) (PySem.Value.str (so "__cached__") (174 : Nat)) PySem.Value.none) :: (PySem.DictEntry.mk (kh P (so "PerlError")) (PySem.Value.str (so "PerlError") (217 : Nat)) (PySem.Value.ref (31 : Nat))) :: (PySem.DictEntry.mk (kh P (so "SyntaxDie")) (PySem.Value.str (so "SyntaxDie") (243 : Nat)) (PySem.Value.ref (51 : Nat))) :: (PySem.DictEntry.mk (kh P (so "CLOSERS")) (PySem.Value.str (so "CLOSERS") (258 : Nat)) (PySem.Value.ref (54 : Nat))) :: (PySem.DictEntry.mk (kh P (so "SHORT_ESCAPES")) (PySem.Value.str (so "SHORT_ESCAPES") (280 : Nat)) (PySem.Value.ref (55 : Nat))) :: (PySem.DictEntry.mk (kh P (so "CODE_FIGURES")) (PySem.Value.str (so "CODE_FIGURES") (282 : Nat)) (PySem.Value.str (so "0123456789abcdef") (281 : Nat))) :: (PySem.DictEntry.mk (kh P (so "TOP_CODE")) (PySem.Value.str (so "TOP_CODE") (284 : Nat)) (PySem.Value.int (1114111 : Int) (283 : Nat))) :: (PySem.DictEntry.mk (kh P (so "closer_of")) (PySem.Value.str (so "closer_of") (291 : Nat)) (PySem.Value.ref (62 : Nat))) :: (PySem.DictEntry.mk (kh P (so "line_of_place")) (PySem.Value.str (so "line_of_place") (299 : Nat)) (PySem.Value.ref (69 : Nat))) :: (PySem.DictEntry.mk (kh P (so "delimited")) (PySem.Value.str (so "delimited") (312 : Nat)) (PySem.Value.ref (76 : Nat))) :: (PySem.DictEntry.mk (kh P (so "unguarded")) (PySem.Value.str (so "unguarded") (325 : Nat)) (PySem.Value.ref (83 : Nat))) :: (PySem.DictEntry.mk (kh P (so "read_q")) (PySem.Value.str (so "read_q") (333 : Nat)) (PySem.Value.ref (90 : Nat))) :: (PySem.DictEntry.mk (kh P (so "digits_value")) (PySem.Value.str (so "digits_value") (346 : Nat)) (PySem.Value.ref (97 : Nat))) :: (PySem.DictEntry.mk (kh P (so "coded_sign")) (PySem.Value.str (so "coded_sign") (353 : Nat)) (PySem.Value.ref (104 : Nat))) :: (PySem.DictEntry.mk (kh P (so "braced_code")) (PySem.Value.str (so "braced_code") (365 : Nat)) (PySem.Value.ref (111 : Nat))) :: (PySem.DictEntry.mk (kh P (so "escape_at")) (PySem.Value.str (so "escape_at") (376 : Nat)) (PySem.Value.ref (118 : Nat))) :: (PySem.DictEntry.mk (kh P (so "great_letter")) (PySem.Value.str (so "great_letter") (383 : Nat)) (PySem.Value.ref (125 : Nat))) :: (PySem.DictEntry.mk (kh P (so "small_letter")) (PySem.Value.str (so "small_letter") (390 : Nat)) (PySem.Value.ref (132 : Nat))) :: (PySem.DictEntry.mk (kh P (so "is_plain_word_sign")) (PySem.Value.str (so "is_plain_word_sign") (397 : Nat)) (PySem.Value.ref (139 : Nat))) :: (PySem.DictEntry.mk (kh P (so "cased_text")) (PySem.Value.str (so "cased_text") (407 : Nat)) (PySem.Value.ref (146 : Nat))) :: (PySem.DictEntry.mk (kh P (so "here_end")) (PySem.Value.str (so "here_end") (419 : Nat)) (PySem.Value.ref (153 : Nat))) :: (PySem.DictEntry.mk (kh P (so "here_body")) (PySem.Value.str (so "here_body") (434 : Nat)) (PySem.Value.ref (160 : Nat))) :: (PySem.DictEntry.mk (kh P (so "SHORT_CASES")) (PySem.Value.str (so "SHORT_CASES") (438 : Nat)) (PySem.Value.str (so "ul") (437 : Nat))) :: (PySem.DictEntry.mk (kh P (so "PUNCTUATION")) (PySem.Value.str (so "PUNCTUATION") (440 : Nat)) (PySem.Value.str (so "&,;!@/\"") (439 : Nat))) :: (PySem.DictEntry.mk (kh P (so "is_name_start")) (PySem.Value.str (so "is_name_start") (447 : Nat)) (PySem.Value.ref (167 : Nat))) :: (PySem.DictEntry.mk (kh P (so "variable_name_end")) (PySem.Value.str (so "variable_name_end") (456 : Nat)) (PySem.Value.ref (174 : Nat))) :: (PySem.DictEntry.mk (kh P (so "quote_skip")) (PySem.Value.str (so "quote_skip") (465 : Nat)) (PySem.Value.ref (181 : Nat))) :: (PySem.DictEntry.mk (kh P (so "subscript_end")) (PySem.Value.str (so "subscript_end") (478 : Nat)) (PySem.Value.ref (188 : Nat))) :: [])) (36 : Nat)) (List.toArray []))
noncomputable def qo_159 (P : Params) : Obj := (PySem.Obj.mk PySem.Value.none none (PySem.Data.fields (List.toArray ((PySem.Value.int (2 : Int) (0 : Nat)) :: (PySem.Value.int (0 : Int) (0 : Nat)) :: (PySem.Value.ref (20 : Nat)) :: (PySem.Value.int (7 : Int) (0 : Nat)) :: (PySem.Value.int (0 : Int) (0 : Nat)) :: (PySem.Value.ref (40 : Nat)) :: (PySem.Value.int (17 : Int) (0 : Nat)) :: (PySem.Value.int (0 : Int) (0 : Nat)) :: (PySem.Value.ref (61 : Nat)) :: (PySem.Value.int (19 : Int) (0 : Nat)) :: (PySem.Value.int (0 : Int) (0 : Nat)) :: (PySem.Value.ref (68 : Nat)) :: (PySem.Value.int (21 : Int) (0 : Nat)) :: (PySem.Value.int (0 : Int) (0 : Nat)) :: (PySem.Value.ref (75 : Nat)) :: (PySem.Value.int (39 : Int) (0 : Nat)) :: (PySem.Value.int (0 : Int) (0 : Nat)) :: (PySem.Value.ref (82 : Nat)) :: (PySem.Value.int (55 : Int) (0 : Nat)) :: (PySem.Value.int (0 : Int) (0 : Nat)) :: (PySem.Value.ref (89 : Nat)) :: (PySem.Value.int (57 : Int) (0 : Nat)) :: (PySem.Value.int (0 : Int) (0 : Nat)) :: (PySem.Value.ref (96 : Nat)) :: (PySem.Value.int (67 : Int) (0 : Nat)) :: (PySem.Value.int (0 : Int) (0 : Nat)) :: (PySem.Value.ref (103 : Nat)) :: (PySem.Value.int (71 : Int) (0 : Nat)) :: (PySem.Value.int (0 : Int) (0 : Nat)) :: (PySem.Value.ref (110 : Nat)) :: (PySem.Value.int (77 : Int) (0 : Nat)) :: (PySem.Value.int (0 : Int) (0 : Nat)) :: (PySem.Value.ref (117 : Nat)) :: (PySem.Value.int (98 : Int) (0 : Nat)) :: (PySem.Value.int (0 : Int) (0 : Nat)) :: (PySem.Value.ref (124 : Nat)) :: (PySem.Value.int (102 : Int) (0 : Nat)) :: (PySem.Value.int (0 : Int) (0 : Nat)) :: (PySem.Value.ref (131 : Nat)) :: (PySem.Value.int (106 : Int) (0 : Nat)) :: (PySem.Value.int (0 : Int) (0 : Nat)) :: (PySem.Value.ref (138 : Nat)) :: (PySem.Value.int (108 : Int) (0 : Nat)) :: (PySem.Value.int (0 : Int) (0 : Nat)) :: (PySem.Value.ref (145 : Nat)) :: (PySem.Value.int (124 : Int) (0 : Nat)) :: (PySem.Value.int (0 : Int) (0 : Nat)) :: (PySem.Value.ref (152 : Nat)) :: (PySem.Value.int (132 : Int) (0 : Nat)) :: (PySem.Value.int (0 : Int) (0 : Nat)) :: (PySem.Value.ref (159 : Nat)) :: (PySem.Value.int (147 : Int) (0 : Nat)) :: (PySem.Value.int (0 : Int) (0 : Nat)) :: (PySem.Value.ref (166 : Nat)) :: (PySem.Value.int (149 : Int) (0 : Nat)) :: (PySem.Value.int (0 : Int) (0 : Nat)) :: (PySem.Value.ref (173 : Nat)) :: (PySem.Value.int (163 : Int) (0 : Nat)) :: (PySem.Value.int (0 : Int) (0 : Nat)) :: (PySem.Value.ref (180 : Nat)) :: (PySem.Value.int (172 : Int) (0 : Nat)) :: (PySem.Value.int (0 : Int) (0 : Nat)) :: (PySem.Value.ref (187 : Nat)) :: []))) (List.toArray []))
noncomputable def qo_160 (P : Params) : Obj := (PySem.Obj.mk (PySem.Value.type "tuple") none (PySem.Data.seq (List.toArray []) (0 : Nat)) (List.toArray []))
noncomputable def qo_161 (P : Params) : Obj := (PySem.Obj.mk PySem.Value.none none (PySem.Data.fields (List.toArray [])) (List.toArray []))
noncomputable def qo_162 (P : Params) : Obj := (PySem.Obj.mk (PySem.Value.type "tuple") none (PySem.Data.seq (List.toArray [(PySem.Value.str (so "text") (369 : Nat)), (PySem.Value.str (so "at") (370 : Nat)), (PySem.Value.str (so "sign") (371 : Nat)), (PySem.Value.str (so "value") (372 : Nat)), (PySem.Value.str (so "end") (373 : Nat))]) (0 : Nat)) (List.toArray []))
noncomputable def qo_163 (P : Params) : Obj := (PySem.Obj.mk (PySem.Value.type "tuple") none (PySem.Data.seq (List.toArray []) (0 : Nat)) (List.toArray []))
noncomputable def qo_164 (P : Params) : Obj := (PySem.Obj.mk PySem.Value.none none (PySem.Data.func (PySem.FuncData.mk (so "escape_at") (so "escape_at") pa118 (PySem.FuncBody.stmts bo118) sc118 (0 : Nat) (@List.nil (PySem.Str × Nat)) PySem.Value.none PySem.Value.none PySem.Value.none PySem.Value.none none PySem.Value.none PySem.Value.none (0 : Nat))) (List.toArray []))
noncomputable def qo_165 (P : Params) : Obj := (PySem.Obj.mk (PySem.Value.type "code") none (PySem.Data.fields (List.toArray [(PySem.Value.str (so "escape_at") (366 : Nat)), (PySem.Value.str (so "escape_at") (367 : Nat)), (PySem.Value.str (so "/claim/cut.py") (368 : Nat)), (PySem.Value.int (77 : Int) (0 : Nat)), (PySem.Value.int (2 : Int) (0 : Nat)), (PySem.Value.int (0 : Int) (0 : Nat)), (PySem.Value.int (0 : Int) (0 : Nat)), (PySem.Value.int (3 : Int) (0 : Nat)), (PySem.Value.ref (112 : Nat)), (PySem.Value.bool Bool.true), (PySem.Value.int (181 : Int) (0 : Nat)), (PySem.Value.ref (113 : Nat)), PySem.Value.none, (PySem.Value.ref (114 : Nat)), (PySem.Value.ref (115 : Nat)), (PySem.Value.ref (116 : Nat)), (PySem.Value.int (374 : Int) (0 : Nat)), (PySem.Value.int (77 : Int) (0 : Nat)), (PySem.Value.str (so "/claim/cut.py") (375 : Nat))])) (List.toArray []))
noncomputable def qo_166 (P : Params) : Obj := (PySem.Obj.mk (PySem.Value.type "function") none (PySem.Data.func (PySem.FuncData.mk (so "escape_at") (so "escape_at") pa118 (PySem.FuncBody.stmts bo118) sc118 (3 : Nat) (@List.nil (PySem.Str × Nat)) PySem.Value.none PySem.Value.none PySem.Value.none (PySem.Value.str (so "perlcore.quotes") (244 : Nat)) none (PySem.Value.ref (117 : Nat)) PySem.Value.none (0 : Nat))) (List.toArray []))
noncomputable def qo_167 (P : Params) : Obj := (PySem.Obj.mk (PySem.Value.type "tuple") none (PySem.Data.seq (List.toArray []) (0 : Nat)) (List.toArray []))
noncomputable def qo_168 (P : Params) : Obj := (PySem.Obj.mk PySem.Value.none none (PySem.Data.fields (List.toArray [])) (List.toArray []))
noncomputable def qo_169 (P : Params) : Obj := (PySem.Obj.mk (PySem.Value.type "tuple") none (PySem.Data.seq (List.toArray [(PySem.Value.str (so "sign") (380 : Nat))]) (0 : Nat)) (List.toArray []))
noncomputable def qo_170 (P : Params) : Obj := (PySem.Obj.mk (PySem.Value.type "tuple") none (PySem.Data.seq (List.toArray []) (0 : Nat)) (List.toArray []))
noncomputable def qo_171 (P : Params) : Obj := (PySem.Obj.mk PySem.Value.none none (PySem.Data.func (PySem.FuncData.mk (so "great_letter") (so "great_letter") pa125 (PySem.FuncBody.stmts bo125) sc125 (0 : Nat) (@List.nil (PySem.Str × Nat)) PySem.Value.none PySem.Value.none PySem.Value.none PySem.Value.none none PySem.Value.none PySem.Value.none (0 : Nat))) (List.toArray []))
noncomputable def qo_172 (P : Params) : Obj := (PySem.Obj.mk (PySem.Value.type "code") none (PySem.Data.fields (List.toArray [(PySem.Value.str (so "great_letter") (377 : Nat)), (PySem.Value.str (so "great_letter") (378 : Nat)), (PySem.Value.str (so "/claim/cut.py") (379 : Nat)), (PySem.Value.int (98 : Int) (0 : Nat)), (PySem.Value.int (1 : Int) (0 : Nat)), (PySem.Value.int (0 : Int) (0 : Nat)), (PySem.Value.int (0 : Int) (0 : Nat)), (PySem.Value.int (3 : Int) (0 : Nat)), (PySem.Value.ref (119 : Nat)), (PySem.Value.bool Bool.true), (PySem.Value.int (181 : Int) (0 : Nat)), (PySem.Value.ref (120 : Nat)), PySem.Value.none, (PySem.Value.ref (121 : Nat)), (PySem.Value.ref (122 : Nat)), (PySem.Value.ref (123 : Nat)), (PySem.Value.int (381 : Int) (0 : Nat)), (PySem.Value.int (98 : Int) (0 : Nat)), (PySem.Value.str (so "/claim/cut.py") (382 : Nat))])) (List.toArray []))
noncomputable def qo_173 (P : Params) : Obj := (PySem.Obj.mk (PySem.Value.type "function") none (PySem.Data.func (PySem.FuncData.mk (so "great_letter") (so "great_letter") pa125 (PySem.FuncBody.stmts bo125) sc125 (3 : Nat) (@List.nil (PySem.Str × Nat)) PySem.Value.none PySem.Value.none PySem.Value.none (PySem.Value.str (so "perlcore.quotes") (244 : Nat)) none (PySem.Value.ref (124 : Nat)) PySem.Value.none (0 : Nat))) (List.toArray []))
noncomputable def qo_174 (P : Params) : Obj := (PySem.Obj.mk (PySem.Value.type "tuple") none (PySem.Data.seq (List.toArray []) (0 : Nat)) (List.toArray []))
noncomputable def qo_175 (P : Params) : Obj := (PySem.Obj.mk PySem.Value.none none (PySem.Data.fields (List.toArray [])) (List.toArray []))
noncomputable def qo_176 (P : Params) : Obj := (PySem.Obj.mk (PySem.Value.type "tuple") none (PySem.Data.seq (List.toArray [(PySem.Value.str (so "sign") (387 : Nat))]) (0 : Nat)) (List.toArray []))
noncomputable def qo_177 (P : Params) : Obj := (PySem.Obj.mk (PySem.Value.type "tuple") none (PySem.Data.seq (List.toArray []) (0 : Nat)) (List.toArray []))
noncomputable def qo_178 (P : Params) : Obj := (PySem.Obj.mk PySem.Value.none none (PySem.Data.func (PySem.FuncData.mk (so "small_letter") (so "small_letter") pa132 (PySem.FuncBody.stmts bo132) sc132 (0 : Nat) (@List.nil (PySem.Str × Nat)) PySem.Value.none PySem.Value.none PySem.Value.none PySem.Value.none none PySem.Value.none PySem.Value.none (0 : Nat))) (List.toArray []))
noncomputable def qo_179 (P : Params) : Obj := (PySem.Obj.mk (PySem.Value.type "code") none (PySem.Data.fields (List.toArray [(PySem.Value.str (so "small_letter") (384 : Nat)), (PySem.Value.str (so "small_letter") (385 : Nat)), (PySem.Value.str (so "/claim/cut.py") (386 : Nat)), (PySem.Value.int (102 : Int) (0 : Nat)), (PySem.Value.int (1 : Int) (0 : Nat)), (PySem.Value.int (0 : Int) (0 : Nat)), (PySem.Value.int (0 : Int) (0 : Nat)), (PySem.Value.int (3 : Int) (0 : Nat)), (PySem.Value.ref (126 : Nat)), (PySem.Value.bool Bool.true), (PySem.Value.int (181 : Int) (0 : Nat)), (PySem.Value.ref (127 : Nat)), PySem.Value.none, (PySem.Value.ref (128 : Nat)), (PySem.Value.ref (129 : Nat)), (PySem.Value.ref (130 : Nat)), (PySem.Value.int (388 : Int) (0 : Nat)), (PySem.Value.int (102 : Int) (0 : Nat)), (PySem.Value.str (so "/claim/cut.py") (389 : Nat))])) (List.toArray []))
noncomputable def qo_180 (P : Params) : Obj := (PySem.Obj.mk (PySem.Value.type "function") none (PySem.Data.func (PySem.FuncData.mk (so "small_letter") (so "small_letter") pa132 (PySem.FuncBody.stmts bo132) sc132 (3 : Nat) (@List.nil (PySem.Str × Nat)) PySem.Value.none PySem.Value.none PySem.Value.none (PySem.Value.str (so "perlcore.quotes") (244 : Nat)) none (PySem.Value.ref (131 : Nat)) PySem.Value.none (0 : Nat))) (List.toArray []))
noncomputable def qo_181 (P : Params) : Obj := (PySem.Obj.mk (PySem.Value.type "tuple") none (PySem.Data.seq (List.toArray []) (0 : Nat)) (List.toArray []))
noncomputable def qo_182 (P : Params) : Obj := (PySem.Obj.mk PySem.Value.none none (PySem.Data.fields (List.toArray [])) (List.toArray []))
noncomputable def qo_183 (P : Params) : Obj := (PySem.Obj.mk (PySem.Value.type "tuple") none (PySem.Data.seq (List.toArray [(PySem.Value.str (so "sign") (394 : Nat))]) (0 : Nat)) (List.toArray []))
noncomputable def qo_184 (P : Params) : Obj := (PySem.Obj.mk (PySem.Value.type "tuple") none (PySem.Data.seq (List.toArray []) (0 : Nat)) (List.toArray []))
noncomputable def qo_185 (P : Params) : Obj := (PySem.Obj.mk PySem.Value.none none (PySem.Data.func (PySem.FuncData.mk (so "is_plain_word_sign") (so "is_plain_word_sign") pa139 (PySem.FuncBody.stmts bo139) sc139 (0 : Nat) (@List.nil (PySem.Str × Nat)) PySem.Value.none PySem.Value.none PySem.Value.none PySem.Value.none none PySem.Value.none PySem.Value.none (0 : Nat))) (List.toArray []))
noncomputable def qo_186 (P : Params) : Obj := (PySem.Obj.mk (PySem.Value.type "code") none (PySem.Data.fields (List.toArray [(PySem.Value.str (so "is_plain_word_sign") (391 : Nat)), (PySem.Value.str (so "is_plain_word_sign") (392 : Nat)), (PySem.Value.str (so "/claim/cut.py") (393 : Nat)), (PySem.Value.int (106 : Int) (0 : Nat)), (PySem.Value.int (1 : Int) (0 : Nat)), (PySem.Value.int (0 : Int) (0 : Nat)), (PySem.Value.int (0 : Int) (0 : Nat)), (PySem.Value.int (3 : Int) (0 : Nat)), (PySem.Value.ref (133 : Nat)), (PySem.Value.bool Bool.true), (PySem.Value.int (181 : Int) (0 : Nat)), (PySem.Value.ref (134 : Nat)), PySem.Value.none, (PySem.Value.ref (135 : Nat)), (PySem.Value.ref (136 : Nat)), (PySem.Value.ref (137 : Nat)), (PySem.Value.int (395 : Int) (0 : Nat)), (PySem.Value.int (106 : Int) (0 : Nat)), (PySem.Value.str (so "/claim/cut.py") (396 : Nat))])) (List.toArray []))
noncomputable def qo_187 (P : Params) : Obj := (PySem.Obj.mk (PySem.Value.type "function") none (PySem.Data.func (PySem.FuncData.mk (so "is_plain_word_sign") (so "is_plain_word_sign") pa139 (PySem.FuncBody.stmts bo139) sc139 (3 : Nat) (@List.nil (PySem.Str × Nat)) PySem.Value.none PySem.Value.none PySem.Value.none (PySem.Value.str (so "perlcore.quotes") (244 : Nat)) none (PySem.Value.ref (138 : Nat)) PySem.Value.none (0 : Nat))) (List.toArray []))
noncomputable def qo_188 (P : Params) : Obj := (PySem.Obj.mk (PySem.Value.type "tuple") none (PySem.Data.seq (List.toArray []) (0 : Nat)) (List.toArray []))
noncomputable def qo_189 (P : Params) : Obj := (PySem.Obj.mk PySem.Value.none none (PySem.Data.fields (List.toArray [])) (List.toArray []))
noncomputable def qo_190 (P : Params) : Obj := (PySem.Obj.mk (PySem.Value.type "tuple") none (PySem.Data.seq (List.toArray [(PySem.Value.str (so "mark") (401 : Nat)), (PySem.Value.str (so "text") (402 : Nat)), (PySem.Value.str (so "out") (403 : Nat)), (PySem.Value.str (so "sign") (404 : Nat))]) (0 : Nat)) (List.toArray []))
noncomputable def qo_191 (P : Params) : Obj := (PySem.Obj.mk (PySem.Value.type "tuple") none (PySem.Data.seq (List.toArray []) (0 : Nat)) (List.toArray []))
noncomputable def qo_192 (P : Params) : Obj := (PySem.Obj.mk PySem.Value.none none (PySem.Data.func (PySem.FuncData.mk (so "cased_text") (so "cased_text") pa146 (PySem.FuncBody.stmts bo146) sc146 (0 : Nat) (@List.nil (PySem.Str × Nat)) PySem.Value.none PySem.Value.none PySem.Value.none PySem.Value.none none PySem.Value.none PySem.Value.none (0 : Nat))) (List.toArray []))
noncomputable def qo_193 (P : Params) : Obj := (PySem.Obj.mk (PySem.Value.type "code") none (PySem.Data.fields (List.toArray [(PySem.Value.str (so "cased_text") (398 : Nat)), (PySem.Value.str (so "cased_text") (399 : Nat)), (PySem.Value.str (so "/claim/cut.py") (400 : Nat)), (PySem.Value.int (108 : Int) (0 : Nat)), (PySem.Value.int (2 : Int) (0 : Nat)), (PySem.Value.int (0 : Int) (0 : Nat)), (PySem.Value.int (0 : Int) (0 : Nat)), (PySem.Value.int (3 : Int) (0 : Nat)), (PySem.Value.ref (140 : Nat)), (PySem.Value.bool Bool.true), (PySem.Value.int (181 : Int) (0 : Nat)), (PySem.Value.ref (141 : Nat)), PySem.Value.none, (PySem.Value.ref (142 : Nat)), (PySem.Value.ref (143 : Nat)), (PySem.Value.ref (144 : Nat)), (PySem.Value.int (405 : Int) (0 : Nat)), (PySem.Value.int (108 : Int) (0 : Nat)), (PySem.Value.str (so "/claim/cut.py") (406 : Nat))])) (List.toArray []))
noncomputable def qo_194 (P : Params) : Obj := (PySem.Obj.mk (PySem.Value.type "function") none (PySem.Data.func (PySem.FuncData.mk (so "cased_text") (so "cased_text") pa146 (PySem.FuncBody.stmts bo146) sc146 (3 : Nat) (@List.nil (PySem.Str × Nat)) PySem.Value.none PySem.Value.none PySem.Value.none (PySem.Value.str (so "perlcore.quotes") (244 : Nat)) none (PySem.Value.ref (145 : Nat)) PySem.Value.none (0 : Nat))) (List.toArray []))
noncomputable def qo_195 (P : Params) : Obj := (PySem.Obj.mk (PySem.Value.type "tuple") none (PySem.Data.seq (List.toArray []) (0 : Nat)) (List.toArray []))
noncomputable def qo_196 (P : Params) : Obj := (PySem.Obj.mk PySem.Value.none none (PySem.Data.fields (List.toArray [])) (List.toArray []))
noncomputable def qo_197 (P : Params) : Obj := (PySem.Obj.mk (PySem.Value.type "tuple") none (PySem.Data.seq (List.toArray [(PySem.Value.str (so "lines") (411 : Nat)), (PySem.Value.str (so "at") (412 : Nat)), (PySem.Value.str (so "word") (413 : Nat)), (PySem.Value.str (so "is_indented") (414 : Nat)), (PySem.Value.str (so "end") (415 : Nat)), (PySem.Value.str (so "row") (416 : Nat))]) (0 : Nat)) (List.toArray []))
noncomputable def qo_198 (P : Params) : Obj := (PySem.Obj.mk (PySem.Value.type "tuple") none (PySem.Data.seq (List.toArray []) (0 : Nat)) (List.toArray []))
noncomputable def qo_199 (P : Params) : Obj := (PySem.Obj.mk PySem.Value.none none (PySem.Data.func (PySem.FuncData.mk (so "here_end") (so "here_end") pa153 (PySem.FuncBody.stmts bo153) sc153 (0 : Nat) (@List.nil (PySem.Str × Nat)) PySem.Value.none PySem.Value.none PySem.Value.none PySem.Value.none none PySem.Value.none PySem.Value.none (0 : Nat))) (List.toArray []))
noncomputable def qo_200 (P : Params) : Obj := (PySem.Obj.mk (PySem.Value.type "code") none (PySem.Data.fields (List.toArray [(PySem.Value.str (so "here_end") (408 : Nat)), (PySem.Value.str (so "here_end") (409 : Nat)), (PySem.Value.str (so "/claim/cut.py") (410 : Nat)), (PySem.Value.int (124 : Int) (0 : Nat)), (PySem.Value.int (4 : Int) (0 : Nat)), (PySem.Value.int (0 : Int) (0 : Nat)), (PySem.Value.int (0 : Int) (0 : Nat)), (PySem.Value.int (3 : Int) (0 : Nat)), (PySem.Value.ref (147 : Nat)), (PySem.Value.bool Bool.true), (PySem.Value.int (181 : Int) (0 : Nat)), (PySem.Value.ref (148 : Nat)), PySem.Value.none, (PySem.Value.ref (149 : Nat)), (PySem.Value.ref (150 : Nat)), (PySem.Value.ref (151 : Nat)), (PySem.Value.int (417 : Int) (0 : Nat)), (PySem.Value.int (124 : Int) (0 : Nat)), (PySem.Value.str (so "/claim/cut.py") (418 : Nat))])) (List.toArray []))
noncomputable def qo_201 (P : Params) : Obj := (PySem.Obj.mk (PySem.Value.type "function") none (PySem.Data.func (PySem.FuncData.mk (so "here_end") (so "here_end") pa153 (PySem.FuncBody.stmts bo153) sc153 (3 : Nat) (@List.nil (PySem.Str × Nat)) PySem.Value.none PySem.Value.none PySem.Value.none (PySem.Value.str (so "perlcore.quotes") (244 : Nat)) none (PySem.Value.ref (152 : Nat)) PySem.Value.none (0 : Nat))) (List.toArray []))
noncomputable def qo_202 (P : Params) : Obj := (PySem.Obj.mk (PySem.Value.type "tuple") none (PySem.Data.seq (List.toArray []) (0 : Nat)) (List.toArray []))
noncomputable def qo_203 (P : Params) : Obj := (PySem.Obj.mk PySem.Value.none none (PySem.Data.fields (List.toArray [])) (List.toArray []))
noncomputable def qo_204 (P : Params) : Obj := (PySem.Obj.mk (PySem.Value.type "tuple") none (PySem.Data.seq (List.toArray [(PySem.Value.str (so "lines") (423 : Nat)), (PySem.Value.str (so "at") (424 : Nat)), (PySem.Value.str (so "word") (425 : Nat)), (PySem.Value.str (so "is_indented") (426 : Nat)), (PySem.Value.str (so "end") (427 : Nat)), (PySem.Value.str (so "margin") (428 : Nat)), (PySem.Value.str (so "text") (429 : Nat)), (PySem.Value.str (so "place") (430 : Nat)), (PySem.Value.str (so "row") (431 : Nat))]) (0 : Nat)) (List.toArray []))
noncomputable def qo_205 (P : Params) : Obj := (PySem.Obj.mk (PySem.Value.type "tuple") none (PySem.Data.seq (List.toArray []) (0 : Nat)) (List.toArray []))
noncomputable def qo_206 (P : Params) : Obj := (PySem.Obj.mk PySem.Value.none none (PySem.Data.func (PySem.FuncData.mk (so "here_body") (so "here_body") pa160 (PySem.FuncBody.stmts bo160) sc160 (0 : Nat) (@List.nil (PySem.Str × Nat)) PySem.Value.none PySem.Value.none PySem.Value.none PySem.Value.none none PySem.Value.none PySem.Value.none (0 : Nat))) (List.toArray []))
noncomputable def qo_207 (P : Params) : Obj := (PySem.Obj.mk (PySem.Value.type "code") none (PySem.Data.fields (List.toArray [(PySem.Value.str (so "here_body") (420 : Nat)), (PySem.Value.str (so "here_body") (421 : Nat)), (PySem.Value.str (so "/claim/cut.py") (422 : Nat)), (PySem.Value.int (132 : Int) (0 : Nat)), (PySem.Value.int (4 : Int) (0 : Nat)), (PySem.Value.int (0 : Int) (0 : Nat)), (PySem.Value.int (0 : Int) (0 : Nat)), (PySem.Value.int (3 : Int) (0 : Nat)), (PySem.Value.ref (154 : Nat)), (PySem.Value.bool Bool.true), (PySem.Value.int (181 : Int) (0 : Nat)), (PySem.Value.ref (155 : Nat)), PySem.Value.none, (PySem.Value.ref (156 : Nat)), (PySem.Value.ref (157 : Nat)), (PySem.Value.ref (158 : Nat)), (PySem.Value.int (432 : Int) (0 : Nat)), (PySem.Value.int (132 : Int) (0 : Nat)), (PySem.Value.str (so "/claim/cut.py") (433 : Nat))])) (List.toArray []))
noncomputable def qo_208 (P : Params) : Obj := (PySem.Obj.mk (PySem.Value.type "function") none (PySem.Data.func (PySem.FuncData.mk (so "here_body") (so "here_body") pa160 (PySem.FuncBody.stmts bo160) sc160 (3 : Nat) (@List.nil (PySem.Str × Nat)) PySem.Value.none PySem.Value.none PySem.Value.none (PySem.Value.str (so "perlcore.quotes") (244 : Nat)) none (PySem.Value.ref (159 : Nat)) PySem.Value.none (0 : Nat))) (List.toArray []))
noncomputable def qo_209 (P : Params) : Obj := (PySem.Obj.mk (PySem.Value.type "tuple") none (PySem.Data.seq (List.toArray []) (0 : Nat)) (List.toArray []))
noncomputable def qo_210 (P : Params) : Obj := (PySem.Obj.mk PySem.Value.none none (PySem.Data.fields (List.toArray [])) (List.toArray []))
noncomputable def qo_211 (P : Params) : Obj := (PySem.Obj.mk (PySem.Value.type "tuple") none (PySem.Data.seq (List.toArray [(PySem.Value.str (so "sign") (444 : Nat))]) (0 : Nat)) (List.toArray []))
noncomputable def qo_212 (P : Params) : Obj := (PySem.Obj.mk (PySem.Value.type "tuple") none (PySem.Data.seq (List.toArray []) (0 : Nat)) (List.toArray []))
noncomputable def qo_213 (P : Params) : Obj := (PySem.Obj.mk PySem.Value.none none (PySem.Data.func (PySem.FuncData.mk (so "is_name_start") (so "is_name_start") pa167 (PySem.FuncBody.stmts bo167) sc167 (0 : Nat) (@List.nil (PySem.Str × Nat)) PySem.Value.none PySem.Value.none PySem.Value.none PySem.Value.none none PySem.Value.none PySem.Value.none (0 : Nat))) (List.toArray []))
noncomputable def qo_214 (P : Params) : Obj := (PySem.Obj.mk (PySem.Value.type "code") none (PySem.Data.fields (List.toArray [(PySem.Value.str (so "is_name_start") (441 : Nat)), (PySem.Value.str (so "is_name_start") (442 : Nat)), (PySem.Value.str (so "/claim/cut.py") (443 : Nat)), (PySem.Value.int (147 : Int) (0 : Nat)), (PySem.Value.int (1 : Int) (0 : Nat)), (PySem.Value.int (0 : Int) (0 : Nat)), (PySem.Value.int (0 : Int) (0 : Nat)), (PySem.Value.int (3 : Int) (0 : Nat)), (PySem.Value.ref (161 : Nat)), (PySem.Value.bool Bool.true), (PySem.Value.int (181 : Int) (0 : Nat)), (PySem.Value.ref (162 : Nat)), PySem.Value.none, (PySem.Value.ref (163 : Nat)), (PySem.Value.ref (164 : Nat)), (PySem.Value.ref (165 : Nat)), (PySem.Value.int (445 : Int) (0 : Nat)), (PySem.Value.int (147 : Int) (0 : Nat)), (PySem.Value.str (so "/claim/cut.py") (446 : Nat))])) (List.toArray []))
noncomputable def qo_215 (P : Params) : Obj := (PySem.Obj.mk (PySem.Value.type "function") none (PySem.Data.func (PySem.FuncData.mk (so "is_name_start") (so "is_name_start") pa167 (PySem.FuncBody.stmts bo167) sc167 (3 : Nat) (@List.nil (PySem.Str × Nat)) PySem.Value.none PySem.Value.none PySem.Value.none (PySem.Value.str (so "perlcore.interp") (435 : Nat)) none (PySem.Value.ref (166 : Nat)) PySem.Value.none (0 : Nat))) (List.toArray []))
noncomputable def qo_216 (P : Params) : Obj := (PySem.Obj.mk (PySem.Value.type "tuple") none (PySem.Data.seq (List.toArray []) (0 : Nat)) (List.toArray []))
noncomputable def qo_217 (P : Params) : Obj := (PySem.Obj.mk PySem.Value.none none (PySem.Data.fields (List.toArray [])) (List.toArray []))
noncomputable def qo_218 (P : Params) : Obj := (PySem.Obj.mk (PySem.Value.type "tuple") none (PySem.Data.seq (List.toArray [(PySem.Value.str (so "text") (451 : Nat)), (PySem.Value.str (so "at") (452 : Nat)), (PySem.Value.str (so "end") (453 : Nat))]) (0 : Nat)) (List.toArray []))
noncomputable def qo_219 (P : Params) : Obj := (PySem.Obj.mk (PySem.Value.type "tuple") none (PySem.Data.seq (List.toArray []) (0 : Nat)) (List.toArray []))
noncomputable def qo_220 (P : Params) : Obj := (PySem.Obj.mk PySem.Value.none none (PySem.Data.func (PySem.FuncData.mk (so "variable_name_end") (so "variable_name_end") pa174 (PySem.FuncBody.stmts bo174) sc174 (0 : Nat) (@List.nil (PySem.Str × Nat)) PySem.Value.none PySem.Value.none PySem.Value.none PySem.Value.none none PySem.Value.none PySem.Value.none (0 : Nat))) (List.toArray []))
noncomputable def qo_221 (P : Params) : Obj := (PySem.Obj.mk (PySem.Value.type "code") none (PySem.Data.fields (List.toArray [(PySem.Value.str (so "variable_name_end") (448 : Nat)), (PySem.Value.str (so "variable_name_end") (449 : Nat)), (PySem.Value.str (so "/claim/cut.py") (450 : Nat)), (PySem.Value.int (149 : Int) (0 : Nat)), (PySem.Value.int (2 : Int) (0 : Nat)), (PySem.Value.int (0 : Int) (0 : Nat)), (PySem.Value.int (0 : Int) (0 : Nat)), (PySem.Value.int (3 : Int) (0 : Nat)), (PySem.Value.ref (168 : Nat)), (PySem.Value.bool Bool.true), (PySem.Value.int (181 : Int) (0 : Nat)), (PySem.Value.ref (169 : Nat)), PySem.Value.none, (PySem.Value.ref (170 : Nat)), (PySem.Value.ref (171 : Nat)), (PySem.Value.ref (172 : Nat)), (PySem.Value.int (454 : Int) (0 : Nat)), (PySem.Value.int (149 : Int) (0 : Nat)), (PySem.Value.str (so "/claim/cut.py") (455 : Nat))])) (List.toArray []))
noncomputable def qo_222 (P : Params) : Obj := (PySem.Obj.mk (PySem.Value.type "function") none (PySem.Data.func (PySem.FuncData.mk (so "variable_name_end") (so "variable_name_end") pa174 (PySem.FuncBody.stmts bo174) sc174 (3 : Nat) (@List.nil (PySem.Str × Nat)) PySem.Value.none PySem.Value.none PySem.Value.none (PySem.Value.str (so "perlcore.interp") (435 : Nat)) none (PySem.Value.ref (173 : Nat)) PySem.Value.none (0 : Nat))) (List.toArray []))
noncomputable def qo_223 (P : Params) : Obj := (PySem.Obj.mk (PySem.Value.type "tuple") none (PySem.Data.seq (List.toArray []) (0 : Nat)) (List.toArray []))
noncomputable def qo_224 (P : Params) : Obj := (PySem.Obj.mk PySem.Value.none none (PySem.Data.fields (List.toArray [])) (List.toArray []))
noncomputable def qo_225 (P : Params) : Obj := (PySem.Obj.mk (PySem.Value.type "tuple") none (PySem.Data.seq (List.toArray [(PySem.Value.str (so "text") (460 : Nat)), (PySem.Value.str (so "at") (461 : Nat)), (PySem.Value.str (so "end") (462 : Nat))]) (0 : Nat)) (List.toArray []))
noncomputable def qo_226 (P : Params) : Obj := (PySem.Obj.mk (PySem.Value.type "tuple") none (PySem.Data.seq (List.toArray []) (0 : Nat)) (List.toArray []))
noncomputable def qo_227 (P : Params) : Obj := (PySem.Obj.mk PySem.Value.none none (PySem.Data.func (PySem.FuncData.mk (so "quote_skip") (so "quote_skip") pa181 (PySem.FuncBody.stmts bo181) sc181 (0 : Nat) (@List.nil (PySem.Str × Nat)) PySem.Value.none PySem.Value.none PySem.Value.none PySem.Value.none none PySem.Value.none PySem.Value.none (0 : Nat))) (List.toArray []))
noncomputable def qo_228 (P : Params) : Obj := (PySem.Obj.mk (PySem.Value.type "code") none (PySem.Data.fields (List.toArray [(PySem.Value.str (so "quote_skip") (457 : Nat)), (PySem.Value.str (so "quote_skip") (458 : Nat)), (PySem.Value.str (so "/claim/cut.py") (459 : Nat)), (PySem.Value.int (163 : Int) (0 : Nat)), (PySem.Value.int (2 : Int) (0 : Nat)), (PySem.Value.int (0 : Int) (0 : Nat)), (PySem.Value.int (0 : Int) (0 : Nat)), (PySem.Value.int (3 : Int) (0 : Nat)), (PySem.Value.ref (175 : Nat)), (PySem.Value.bool Bool.true), (PySem.Value.int (181 : Int) (0 : Nat)), (PySem.Value.ref (176 : Nat)), PySem.Value.none, (PySem.Value.ref (177 : Nat)), (PySem.Value.ref (178 : Nat)), (PySem.Value.ref (179 : Nat)), (PySem.Value.int (463 : Int) (0 : Nat)), (PySem.Value.int (163 : Int) (0 : Nat)), (PySem.Value.str (so "/claim/cut.py") (464 : Nat))])) (List.toArray []))
noncomputable def qo_229 (P : Params) : Obj := (PySem.Obj.mk (PySem.Value.type "function") none (PySem.Data.func (PySem.FuncData.mk (so "quote_skip") (so "quote_skip") pa181 (PySem.FuncBody.stmts bo181) sc181 (3 : Nat) (@List.nil (PySem.Str × Nat)) PySem.Value.none PySem.Value.none PySem.Value.none (PySem.Value.str (so "perlcore.interp") (435 : Nat)) none (PySem.Value.ref (180 : Nat)) PySem.Value.none (0 : Nat))) (List.toArray []))
noncomputable def qo_230 (P : Params) : Obj := (PySem.Obj.mk (PySem.Value.type "tuple") none (PySem.Data.seq (List.toArray []) (0 : Nat)) (List.toArray []))
noncomputable def qo_231 (P : Params) : Obj := (PySem.Obj.mk PySem.Value.none none (PySem.Data.fields (List.toArray [])) (List.toArray []))
noncomputable def qo_232 (P : Params) : Obj := (PySem.Obj.mk (PySem.Value.type "tuple") none (PySem.Data.seq (List.toArray [(PySem.Value.str (so "text") (469 : Nat)), (PySem.Value.str (so "at") (470 : Nat)), (PySem.Value.str (so "opening") (471 : Nat)), (PySem.Value.str (so "closing") (472 : Nat)), (PySem.Value.str (so "depth") (473 : Nat)), (PySem.Value.str (so "end") (474 : Nat)), (PySem.Value.str (so "sign") (475 : Nat))]) (0 : Nat)) (List.toArray []))
noncomputable def qo_233 (P : Params) : Obj := (PySem.Obj.mk (PySem.Value.type "tuple") none (PySem.Data.seq (List.toArray []) (0 : Nat)) (List.toArray []))
noncomputable def qo_234 (P : Params) : Obj := (PySem.Obj.mk PySem.Value.none none (PySem.Data.func (PySem.FuncData.mk (so "subscript_end") (so "subscript_end") pa188 (PySem.FuncBody.stmts bo188) sc188 (0 : Nat) (@List.nil (PySem.Str × Nat)) PySem.Value.none PySem.Value.none PySem.Value.none PySem.Value.none none PySem.Value.none PySem.Value.none (0 : Nat))) (List.toArray []))
noncomputable def qo_235 (P : Params) : Obj := (PySem.Obj.mk (PySem.Value.type "code") none (PySem.Data.fields (List.toArray [(PySem.Value.str (so "subscript_end") (466 : Nat)), (PySem.Value.str (so "subscript_end") (467 : Nat)), (PySem.Value.str (so "/claim/cut.py") (468 : Nat)), (PySem.Value.int (172 : Int) (0 : Nat)), (PySem.Value.int (2 : Int) (0 : Nat)), (PySem.Value.int (0 : Int) (0 : Nat)), (PySem.Value.int (0 : Int) (0 : Nat)), (PySem.Value.int (3 : Int) (0 : Nat)), (PySem.Value.ref (182 : Nat)), (PySem.Value.bool Bool.true), (PySem.Value.int (181 : Int) (0 : Nat)), (PySem.Value.ref (183 : Nat)), PySem.Value.none, (PySem.Value.ref (184 : Nat)), (PySem.Value.ref (185 : Nat)), (PySem.Value.ref (186 : Nat)), (PySem.Value.int (476 : Int) (0 : Nat)), (PySem.Value.int (172 : Int) (0 : Nat)), (PySem.Value.str (so "/claim/cut.py") (477 : Nat))])) (List.toArray []))
noncomputable def qo_236 (P : Params) : Obj := (PySem.Obj.mk (PySem.Value.type "function") none (PySem.Data.func (PySem.FuncData.mk (so "subscript_end") (so "subscript_end") pa188 (PySem.FuncBody.stmts bo188) sc188 (3 : Nat) (@List.nil (PySem.Str × Nat)) PySem.Value.none PySem.Value.none PySem.Value.none (PySem.Value.str (so "perlcore.interp") (435 : Nat)) none (PySem.Value.ref (187 : Nat)) PySem.Value.none (0 : Nat))) (List.toArray []))
noncomputable def qo_237 (P : Params) : Obj := (PySem.Obj.mk (PySem.Value.type "dict") none (PySem.Data.dict (List.toArray ((PySem.DictEntry.mk (kh P (so "__name__")) (PySem.Value.str (so "__name__") (165 : Nat)) (PySem.Value.str (so "perlcore.interp") (435 : Nat))) :: (PySem.DictEntry.mk (kh P (so "__doc__")) (PySem.Value.str (so "__doc__") (166 : Nat)) PySem.Value.none) :: (PySem.DictEntry.mk (kh P (so "__package__")) (PySem.Value.str (so "__package__") (167 : Nat)) PySem.Value.none) :: (PySem.DictEntry.mk (kh P (so "__loader__")) (PySem.Value.str (so "__loader__") (168 : Nat)) (PySem.Value.builtin "__main__.__loader__#opaque")) :: (PySem.DictEntry.mk (kh P (so "__spec__")) (PySem.Value.str (so "__spec__") (169 : Nat)) PySem.Value.none) :: (PySem.DictEntry.mk (kh P (so "__annotations__")) (PySem.Value.str (so "__annotations__") (170 : Nat)) (PySem.Value.ref (6 : Nat))) :: (PySem.DictEntry.mk (kh P (so "__builtins__")) (PySem.Value.str (so "__builtins__") (171 : Nat)) (PySem.Value.ref (4 : Nat))) :: (PySem.DictEntry.mk (kh P (so "__file__")) (PySem.Value.str (so "__file__") (173 : Nat)) (PySem.Value.str (so "/claim/cut.py") (172 : Nat))) :: (PySem.DictEntry.mk (kh P (so "__cached__")) (PySem.Value.str (so "__cached__") (174 : Nat)) PySem.Value.none) :: (PySem.DictEntry.mk (kh P (so "PerlError")) (PySem.Value.str (so "PerlError") (217 : Nat)) (PySem.Value.ref (31 : Nat))) :: (PySem.DictEntry.mk (kh P (so "SyntaxDie")) (PySem.Value.str (so "SyntaxDie") (243 : Nat)) (PySem.Value.ref (51 : Nat))) :: (PySem.DictEntry.mk (kh P (so "CLOSERS")) (PySem.Value.str (so "CLOSERS") (258 : Nat)) (PySem.Value.ref (54 : Nat))) :: (PySem.DictEntry.mk (kh P (so "SHORT_ESCAPES")) (PySem.Value.str (so "SHORT_ESCAPES") (280 : Nat)) (PySem.Value.ref (55 : Nat))) :: (PySem.DictEntry.mk (kh P (so "CODE_FIGURES")) (PySem.Value.str (so "CODE_FIGURES") (282 : Nat)) (PySem.Value.str (so "0123456789abcdef") (281 : Nat))) :: (PySem.DictEntry.mk (kh P (so "TOP_CODE")) (PySem.Value.str (so "TOP_CODE") (284 : Nat)) (PySem.Value.int (1114111 : Int) (283 : Nat))) :: (PySem.DictEntry.mk (kh P (so "closer_of")) (PySem.Value.str (so "closer_of") (291 : Nat)) (PySem.Value.ref (62 : Nat))) :: (PySem.DictEntry.mk (kh P (so "line_of_place")) (PySem.Value.str (so "line_of_place") (299 : Nat)) (PySem.Value.ref (69 : Nat))) :: (PySem.DictEntry.mk (kh P (so "delimited")) (PySem.Value.str (so "delimited") (312 : Nat)) (PySem.Value.ref (76 : Nat))) :: (PySem.DictEntry.mk (kh P (so "unguarded")) (PySem.Value.str (so "unguarded") (325 : Nat)) (PySem.Value.ref (83 : Nat))) :: (PySem.DictEntry.mk (kh P (so "read_q")) (PySem.Value.str (so "read_q") (333 : Nat)) (PySem.Value.ref (90 : Nat))) :: (PySem.DictEntry.mk (kh P (so "digits_value")) (PySem.Value.str (so "digits_value") (346 : Nat)) (PySem.Value.ref (97 : Nat))) :: (PySem.DictEntry.mk (kh P (so "coded_sign")) (PySem.Value.str (so "coded_sign") (353 : Nat)) (PySem.Value.ref (104 : Nat))) :: (PySem.DictEntry.mk (kh P (so "braced_code")) (PySem.Value.str (so "braced_code") (365 : Nat)) (PySem.Value.ref (111 : Nat))) :: (PySem.DictEntry.mk (kh P (so "escape_at")) (PySem.Value.str (so "escape_at") (376 : Nat)) (PySem.Value.ref (118 : Nat))) :: (PySem.DictEntry.mk (kh P (so "great_letter")) (PySem.Value.str (so "great_letter") (383 : Nat)) (PySem.Value.ref (125 : Nat))) :: (PySem.DictEntry.mk (kh P (so "small_letter")) (PySem.Value.str (so "small_letter") (390 : Nat)) (PySem.Value.ref (132 : Nat))) :: (PySem.DictEntry.mk (kh P (so "is_plain_word_sign")) (PySem.Value.str (so "is_plain_word_sign") (397 : Nat)) (PySem.Value.ref (139 : Nat))) :: (PySem.DictEntry.mk (kh P (so "cased_text")) (PySem.Value.str (so "cased_text") (407 : Nat)) (PySem.Value.ref (146 : Nat))) :: (PySem.DictEntry.mk (kh P (so "here_end")) (PySem.Value.str (so "here_end") (419 : Nat)) (PySem.Value.ref (153 : Nat))) :: (PySem.DictEntry.mk (kh P (so "here_body")) (PySem.Value.str (so "here_body") (434 : Nat)) (PySem.Value.ref (160 : Nat))) :: (PySem.DictEntry.mk (kh P (so "SHORT_CASES")) (PySem.Value.str (so "SHORT_CASES") (438 : Nat)) (PySem.Value.str (so "ul") (437 : Nat))) :: (PySem.DictEntry.mk (kh P (so "PUNCTUATION")) (PySem.Value.str (so "PUNCTUATION") (440 : Nat)) (PySem.Value.str (so "&,;!@/\"") (439 : Nat))) :: (PySem.DictEntry.mk (kh P (so "is_name_start")) (PySem.Value.str (so "is_name_start") (447 : Nat)) (PySem.Value.ref (167 : Nat))) :: (PySem.DictEntry.mk (kh P (so "variable_name_end")) (PySem.Value.str (so "variable_name_end") (456 : Nat)) (PySem.Value.ref (174 : Nat))) :: (PySem.DictEntry.mk (kh P (so "quote_skip")) (PySem.Value.str (so "quote_skip") (465 : Nat)) (PySem.Value.ref (181 : Nat))) :: (PySem.DictEntry.mk (kh P (so "subscript_end")) (PySem.Value.str (so "subscript_end") (478 : Nat)) (PySem.Value.ref (188 : Nat))) :: (PySem.DictEntry.mk (kh P (so "digits_only")) (PySem.Value.str (so "digits_only") (486 : Nat)) (PySem.Value.ref (195 : Nat))) :: (PySem.DictEntry.mk (kh P (so "is_pattern_part")) (PySem.Value.str (so "is_pattern_part") (497 : Nat)) (PySem.Value.ref (202 : Nat))) :: (PySem.DictEntry.mk (kh P (so "one_subscript")) (PySem.Value.str (so "one_subscript") (507 : Nat)) (PySem.Value.ref (209 : Nat))) :: (PySem.DictEntry.mk (kh P (so "all_subscripts")) (PySem.Value.str (so "all_subscripts") (519 : Nat)) (PySem.Value.ref (216 : Nat))) :: (PySem.DictEntry.mk (kh P (so "base_end")) (PySem.Value.str (so "base_end") (529 : Nat)) (PySem.Value.ref (223 : Nat))) :: (PySem.DictEntry.mk (kh P (so "scalar_end")) (PySem.Value.str (so "scalar_end") (540 : Nat)) (PySem.Value.ref (230 : Nat))) :: (PySem.DictEntry.mk (kh P (so "array_end")) (PySem.Value.str (so "array_end") (550 : Nat)) (PySem.Value.ref (237 : Nat))) :: (PySem.DictEntry.mk (kh P (so "add_part")) (PySem.Value.str (so "add_part") (559 : Nat)) (PySem.Value.ref (244 : Nat))) :: (PySem.DictEntry.mk (kh P (so "close_case")) (PySem.Value.str (so "close_case") (568 : Nat)) (PySem.Value.ref (251 : Nat))) :: (PySem.DictEntry.mk (kh P (so "end_case")) (PySem.Value.str (so "end_case") (575 : Nat)) (PySem.Value.ref (258 : Nat))) :: (PySem.DictEntry.mk (kh P (so "begin_case")) (PySem.Value.str (so "begin_case") (583 : Nat)) (PySem.Value.ref (265 : Nat))) :: (PySem.DictEntry.mk (kh P (so "take_case")) (PySem.Value.str (so "take_case") (594 : Nat)) (PySem.Value.ref (272 : Nat))) :: [])) (48 : Nat)) (List.toArray []))
noncomputable def qo_238 (P : Params) : Obj := (PySem.Obj.mk PySem.Value.none none (PySem.Data.fields (List.toArray ((PySem.Value.int (2 : Int) (0 : Nat)) :: (PySem.Value.int (0 : Int) (0 : Nat)) :: (PySem.Value.ref (20 : Nat)) :: (PySem.Value.int (7 : Int) (0 : Nat)) :: (PySem.Value.int (0 : Int) (0 : Nat)) :: (PySem.Value.ref (40 : Nat)) :: (PySem.Value.int (17 : Int) (0 : Nat)) :: (PySem.Value.int (0 : Int) (0 : Nat)) :: (PySem.Value.ref (61 : Nat)) :: (PySem.Value.int (19 : Int) (0 : Nat)) :: (PySem.Value.int (0 : Int) (0 : Nat)) :: (PySem.Value.ref (68 : Nat)) :: (PySem.Value.int (21 : Int) (0 : Nat)) :: (PySem.Value.int (0 : Int) (0 : Nat)) :: (PySem.Value.ref (75 : Nat)) :: (PySem.Value.int (39 : Int) (0 : Nat)) :: (PySem.Value.int (0 : Int) (0 : Nat)) :: (PySem.Value.ref (82 : Nat)) :: (PySem.Value.int (55 : Int) (0 : Nat)) :: (PySem.Value.int (0 : Int) (0 : Nat)) :: (PySem.Value.ref (89 : Nat)) :: (PySem.Value.int (57 : Int) (0 : Nat)) :: (PySem.Value.int (0 : Int) (0 : Nat)) :: (PySem.Value.ref (96 : Nat)) :: (PySem.Value.int (67 : Int) (0 : Nat)) :: (PySem.Value.int (0 : Int) (0 : Nat)) :: (PySem.Value.ref (103 : Nat)) :: (PySem.Value.int (71 : Int) (0 : Nat)) :: (PySem.Value.int (0 : Int) (0 : Nat)) :: (PySem.Value.ref (110 : Nat)) :: (PySem.Value.int (77 : Int) (0 : Nat)) :: (PySem.Value.int (0 : Int) (0 : Nat)) :: (PySem.Value.ref (117 : Nat)) :: (PySem.Value.int (98 : Int) (0 : Nat)) :: (PySem.Value.int (0 : Int) (0 : Nat)) :: (PySem.Value.ref (124 : Nat)) :: (PySem.Value.int (102 : Int) (0 : Nat)) :: (PySem.Value.int (0 : Int) (0 : Nat)) :: (PySem.Value.ref (131 : Nat)) :: (PySem.Value.int (106 : Int) (0 : Nat)) :: (PySem.Value.int (0 : Int) (0 : Nat)) :: (PySem.Value.ref (138 : Nat)) :: (PySem.Value.int (108 : Int) (0 : Nat)) :: (PySem.Value.int (0 : Int) (0 : Nat)) :: (PySem.Value.ref (145 : Nat)) :: (PySem.Value.int (124 : Int) (0 : Nat)) :: (PySem.Value.int (0 : Int) (0 : Nat)) :: (PySem.Value.ref (152 : Nat)) :: (PySem.Value.int (132 : Int) (0 : Nat)) :: (PySem.Value.int (0 : Int) (0 : Nat)) :: (PySem.Value.ref (159 : Nat)) :: (PySem.Value.int (147 : Int) (0 : Nat)) :: (PySem.Value.int (0 : Int) (0 : Nat)) :: (PySem.Value.ref (166 : Nat)) :: (PySem.Value.int (149 : Int) (0 : Nat)) :: (PySem.Value.int (0 : Int) (0 : Nat)) :: (PySem.Value.ref (173 : Nat)) :: (PySem.Value.int (163 : Int) (0 : Nat)) :: (PySem.Value.int (0 : Int) (0 : Nat)) :: (PySem.Value.ref (180 : Nat)) :: (PySem.Value.int (172 : Int) (0 : Nat)) :: (PySem.Value.int (0 : Int) (0 : Nat)) :: (PySem.Value.ref (187 : Nat)) :: (PySem.Value.int (193 : Int) (0 : Nat)) :: (PySem.Value.int (0 : Int) (0 : Nat)) :: (PySem.Value.ref (194 : Nat)) :: (PySem.Value.int (200 : Int) (0 : Nat)) :: (PySem.Value.int (0 : Int) (0 : Nat)) :: (PySem.Value.ref (201 : Nat)) :: (PySem.Value.int (209 : Int) (0 : Nat)) :: (PySem.Value.int (0 : Int) (0 : Nat)) :: (PySem.Value.ref (208 : Nat)) :: (PySem.Value.int (216 : Int) (0 : Nat)) :: (PySem.Value.int (0 : Int) (0 : Nat)) :: (PySem.Value.ref (215 : Nat)) :: (PySem.Value.int (226 : Int) (0 : Nat)) :: (PySem.Value.int (0 : Int) (0 : Nat)) :: (PySem.Value.ref (222 : Nat)) :: (PySem.Value.int (235 : Int) (0 : Nat)) :: (PySem.Value.int (0 : Int) (0 : Nat)) :: (PySem.Value.ref (229 : Nat)) :: (PySem.Value.int (253 : Int) (0 : Nat)) :: (PySem.Value.int (0 : Int) (0 : Nat)) :: (PySem.Value.ref (236 : Nat)) :: (PySem.Value.int (258 : Int) (0 : Nat)) :: (PySem.Value.int (0 : Int) (0 : Nat)) :: (PySem.Value.ref (243 : Nat)) :: (PySem.Value.int (266 : Int) (0 : Nat)) :: (PySem.Value.int (0 : Int) (0 : Nat)) :: (PySem.Value.ref (250 : Nat)) :: (PySem.Value.int (272 : Int) (0 : Nat)) :: (PySem.Value.int (0 : Int) (0 : Nat)) :: (PySem.Value.ref (257 : Nat)) :: (PySem.Value.int (277 : Int) (0 : Nat)) :: (PySem.Value.int (0 : Int) (0 : Nat)) :: (PySem.Value.ref (264 : Nat)) :: (PySem.Value.int (281 : Int) (0 : Nat)) :: (PySem.Value.int (0 : Int) (0 : Nat)) :: (PySem.Value.ref (271 : Nat)) :: []))) (List.toArray []))
noncomputable def qo_239 (P : Params) : Obj := (PySem.Obj.mk (PySem.Value.type "tuple") none (PySem.Data.seq (List.toArray []) (0 : Nat)) (List.toArray []))
noncomputable def qo_240 (P : Params) : Obj := (PySem.Obj.mk PySem.Value.none none (PySem.Data.fields (List.toArray [])) (List.toArray []))
noncomputable def qo_241 (P : Params) : Obj := (PySem.Obj.mk (PySem.Value.type "tuple") none (PySem.Data.seq (List.toArray [(PySem.Value.str (so "text") (482 : Nat)), (PySem.Value.str (so "sign") (483 : Nat))]) (0 : Nat)) (List.toArray []))
noncomputable def qo_242 (P : Params) : Obj := (PySem.Obj.mk (PySem.Value.type "tuple") none (PySem.Data.seq (List.toArray []) (0 : Nat)) (List.toArray []))
noncomputable def qo_243 (P : Params) : Obj := (PySem.Obj.mk PySem.Value.none none (PySem.Data.func (PySem.FuncData.mk (so "digits_only") (so "digits_only") pa195 (PySem.FuncBody.stmts bo195) sc195 (0 : Nat) (@List.nil (PySem.Str × Nat)) PySem.Value.none PySem.Value.none PySem.Value.none PySem.Value.none none PySem.Value.none PySem.Value.none (0 : Nat))) (List.toArray []))
noncomputable def qo_244 (P : Params) : Obj := (PySem.Obj.mk (PySem.Value.type "code") none (PySem.Data.fields (List.toArray [(PySem.Value.str (so "digits_only") (479 : Nat)), (PySem.Value.str (so "digits_only") (480 : Nat)), (PySem.Value.str (so "/claim/cut.py") (481 : Nat)), (PySem.Value.int (193 : Int) (0 : Nat)), (PySem.Value.int (1 : Int) (0 : Nat)), (PySem.Value.int (0 : Int) (0 : Nat)), (PySem.Value.int (0 : Int) (0 : Nat)), (PySem.Value.int (3 : Int) (0 : Nat)), (PySem.Value.ref (189 : Nat)), (PySem.Value.bool Bool.true), (PySem.Value.int (181 : Int) (0 : Nat)), (PySem.Value.ref (190 : Nat)), PySem.Value.none, (PySem.Value.ref (191 : Nat)), (PySem.Value.ref (192 : Nat)), (PySem.Value.ref (193 : Nat)), (PySem.Value.int (484 : Int) (0 : Nat)), (PySem.Value.int (193 : Int) (0 : Nat)), (PySem.Value.str (so "/claim/cut.py") (485 : Nat))])) (List.toArray []))
noncomputable def qo_245 (P : Params) : Obj := (PySem.Obj.mk (PySem.Value.type "function") none (PySem.Data.func (PySem.FuncData.mk (so "digits_only") (so "digits_only") pa195 (PySem.FuncBody.stmts bo195) sc195 (3 : Nat) (@List.nil (PySem.Str × Nat)) PySem.Value.none PySem.Value.none PySem.Value.none (PySem.Value.str (so "perlcore.interp") (435 : Nat)) none (PySem.Value.ref (194 : Nat)) PySem.Value.none (0 : Nat))) (List.toArray []))
noncomputable def qo_246 (P : Params) : Obj := (PySem.Obj.mk (PySem.Value.type "tuple") none (PySem.Data.seq (List.toArray []) (0 : Nat)) (List.toArray []))
noncomputable def qo_247 (P : Params) : Obj := (PySem.Obj.mk PySem.Value.none none (PySem.Data.fields (List.toArray [])) (List.toArray []))
noncomputable def qo_248 (P : Params) : Obj := (PySem.Obj.mk (PySem.Value.type "tuple") none (PySem.Data.seq (List.toArray [(PySem.Value.str (so "inner") (490 : Nat)), (PySem.Value.str (so "opening") (491 : Nat)), (PySem.Value.str (so "low") (492 : Nat)), (PySem.Value.str (so "comma") (493 : Nat)), (PySem.Value.str (so "high") (494 : Nat))]) (0 : Nat)) (List.toArray []))
noncomputable def qo_249 (P : Params) : Obj := (PySem.Obj.mk (PySem.Value.type "tuple") none (PySem.Data.seq (List.toArray []) (0 : Nat)) (List.toArray []))
noncomputable def qo_250 (P : Params) : Obj := (PySem.Obj.mk PySem.Value.none none (PySem.Data.func (PySem.FuncData.mk (so "is_pattern_part") (so "is_pattern_part") pa202 (PySem.FuncBody.stmts bo202) sc202 (0 : Nat) (@List.nil (PySem.Str × Nat)) PySem.Value.none PySem.Value.none PySem.Value.none PySem.Value.none none PySem.Value.none PySem.Value.none (0 : Nat))) (List.toArray []))
noncomputable def qo_251 (P : Params) : Obj := (PySem.Obj.mk (PySem.Value.type "code") none (PySem.Data.fields (List.toArray [(PySem.Value.str (so "is_pattern_part") (487 : Nat)), (PySem.Value.str (so "is_pattern_part") (488 : Nat)), (PySem.Value.str (so "/claim/cut.py") (489 : Nat)), (PySem.Value.int (200 : Int) (0 : Nat)), (PySem.Value.int (2 : Int) (0 : Nat)), (PySem.Value.int (0 : Int) (0 : Nat)), (PySem.Value.int (0 : Int) (0 : Nat)), (PySem.Value.int (3 : Int) (0 : Nat)), (PySem.Value.ref (196 : Nat)), (PySem.Value.bool Bool.true), (PySem.Value.int (181 : Int) (0 : Nat)), (PySem.Value.ref (197 : Nat)), PySem.Value.none, (PySem.Value.ref (198 : Nat)), (PySem.Value.ref (199 : Nat)), (PySem.Value.ref (200 : Nat)), (PySem.Value.int (495 : Int) (0 : Nat)), (PySem.Value.int (200 : Int) (0 : Nat)), (PySem.Value.str (so "/claim/cut.py") (496 : Nat))])) (List.toArray []))
noncomputable def qo_252 (P : Params) : Obj := (PySem.Obj.mk (PySem.Value.type "function") none (PySem.Data.func (PySem.FuncData.mk (so "is_pattern_part") (so "is_pattern_part") pa202 (PySem.FuncBody.stmts bo202) sc202 (3 : Nat) (@List.nil (PySem.Str × Nat)) PySem.Value.none PySem.Value.none PySem.Value.none (PySem.Value.str (so "perlcore.interp") (435 : Nat)) none (PySem.Value.ref (201 : Nat)) PySem.Value.none (0 : Nat))) (List.toArray []))
noncomputable def qo_253 (P : Params) : Obj := (PySem.Obj.mk (PySem.Value.type "tuple") none (PySem.Data.seq (List.toArray []) (0 : Nat)) (List.toArray []))
noncomputable def qo_254 (P : Params) : Obj := (PySem.Obj.mk PySem.Value.none none (PySem.Data.fields (List.toArray [])) (List.toArray []))
noncomputable def qo_255 (P : Params) : Obj := (PySem.Obj.mk (PySem.Value.type "tuple") none (PySem.Data.seq (List.toArray [(PySem.Value.str (so "text") (501 : Nat)), (PySem.Value.str (so "at") (502 : Nat)), (PySem.Value.str (so "is_pattern") (503 : Nat)), (PySem.Value.str (so "end") (504 : Nat))]) (0 : Nat)) (List.toArray []))
noncomputable def qo_256 (P : Params) : Obj := (PySem.Obj.mk (PySem.Value.type "tuple") none (PySem.Data.seq (List.toArray []) (0 : Nat)) (List.toArray []))
noncomputable def qo_257 (P : Params) : Obj := (PySem.Obj.mk PySem.Value.none none (PySem.Data.func (PySem.FuncData.mk (so "one_subscript") (so "one_subscript") pa209 (PySem.FuncBody.stmts bo209) sc209 (0 : Nat) (@List.nil (PySem.Str × Nat)) PySem.Value.none PySem.Value.none PySem.Value.none PySem.Value.none none PySem.Value.none PySem.Value.none (0 : Nat))) (List.toArray []))
noncomputable def qo_258 (P : Params) : Obj := (PySem.Obj.mk (PySem.Value.type "code") none (PySem.Data.fields (List.toArray [(PySem.Value.str (so "one_subscript") (498 : Nat)), (PySem.Value.str (so "one_subscript") (499 : Nat)), (PySem.Value.str (so "/claim/cut.py") (500 : Nat)), (PySem.Value.int (209 : Int) (0 : Nat)), (PySem.Value.int (3 : Int) (0 : Nat)), (PySem.Value.int (0 : Int) (0 : Nat)), (PySem.Value.int (0 : Int) (0 : Nat)), (PySem.Value.int (3 : Int) (0 : Nat)), (PySem.Value.ref (203 : Nat)), (PySem.Value.bool Bool.true), (PySem.Value.int (181 : Int) (0 : Nat)), (PySem.Value.ref (204 : Nat)), PySem.Value.none, (PySem.Value.ref (205 : Nat)), (PySem.Value.ref (206 : Nat)), (PySem.Value.ref (207 : Nat)), (PySem.Value.int (505 : Int) (0 : Nat)), (PySem.Value.int (209 : Int) (0 : Nat)), (PySem.Value.str (so "/claim/cut.py") (506 : Nat))])) (List.toArray []))
noncomputable def qo_259 (P : Params) : Obj := (PySem.Obj.mk (PySem.Value.type "function") none (PySem.Data.func (PySem.FuncData.mk (so "one_subscript") (so "one_subscript") pa209 (PySem.FuncBody.stmts bo209) sc209 (3 : Nat) (@List.nil (PySem.Str × Nat)) PySem.Value.none PySem.Value.none PySem.Value.none (PySem.Value.str (so "perlcore.interp") (435 : Nat)) none (PySem.Value.ref (208 : Nat)) PySem.Value.none (0 : Nat))) (List.toArray []))
noncomputable def qo_260 (P : Params) : Obj := (PySem.Obj.mk (PySem.Value.type "tuple") none (PySem.Data.seq (List.toArray []) (0 : Nat)) (List.toArray []))
noncomputable def qo_261 (P : Params) : Obj := (PySem.Obj.mk PySem.Value.none none (PySem.Data.fields (List.toArray [])) (List.toArray []))
noncomputable def qo_262 (P : Params) : Obj := (PySem.Obj.mk (PySem.Value.type "tuple") none (PySem.Data.seq (List.toArray [(PySem.Value.str (so "text") (511 : Nat)), (PySem.Value.str (so "at") (512 : Nat)), (PySem.Value.str (so "is_pattern") (513 : Nat)), (PySem.Value.str (so "end") (514 : Nat)), (PySem.Value.str (so "begin") (515 : Nat)), (PySem.Value.str (so "behind") (516 : Nat))]) (0 : Nat)) (List.toArray []))
noncomputable def qo_263 (P : Params) : Obj := (PySem.Obj.mk (PySem.Value.type "tuple") none (PySem.Data.seq (List.toArray []) (0 : Nat)) (List.toArray []))
noncomputable def qo_264 (P : Params) : Obj := (PySem.Obj.mk PySem.Value.none none (PySem.Data.func (PySem.FuncData.mk (so "all_subscripts") (so "all_subscripts") pa216 (PySem.FuncBody.stmts bo216) sc216 (0 : Nat) (@List.nil (PySem.Str × Nat)) PySem.Value.none PySem.Value.none PySem.Value.none PySem.Value.none none PySem.Value.none PySem.Value.none (0 : Nat))) (List.toArray []))
noncomputable def qo_265 (P : Params) : Obj := (PySem.Obj.mk (PySem.Value.type "code") none (PySem.Data.fields (List.toArray [(PySem.Value.str (so "all_subscripts") (508 : Nat)), (PySem.Value.str (so "all_subscripts") (509 : Nat)), (PySem.Value.str (so "/claim/cut.py") (510 : Nat)), (PySem.Value.int (216 : Int) (0 : Nat)), (PySem.Value.int (3 : Int) (0 : Nat)), (PySem.Value.int (0 : Int) (0 : Nat)), (PySem.Value.int (0 : Int) (0 : Nat)), (PySem.Value.int (3 : Int) (0 : Nat)), (PySem.Value.ref (210 : Nat)), (PySem.Value.bool Bool.true), (PySem.Value.int (181 : Int) (0 : Nat)), (PySem.Value.ref (211 : Nat)), PySem.Value.none, (PySem.Value.ref (212 : Nat)), (PySem.Value.ref (213 : Nat)), (PySem.Value.ref (214 : Nat)), (PySem.Value.int (517 : Int) (0 : Nat)), (PySem.Value.int (216 : Int) (0 : Nat)), (PySem.Value.str (so "/claim/cut.py") (518 : Nat))])) (List.toArray []))
noncomputable def qo_266 (P : Params) : Obj := (PySem.Obj.mk (PySem.Value.type "function") none (PySem.Data.func (PySem.FuncData.mk (so "all_subscripts") (so "all_subscripts") pa216 (PySem.FuncBody.stmts bo216) sc216 (3 : Nat) (@List.nil (PySem.Str × Nat)) PySem.Value.none PySem.Value.none PySem.Value.none (PySem.Value.str (so "perlcore.interp") (435 : Nat)) none (PySem.Value.ref (215 : Nat)) PySem.Value.none (0 : Nat))) (List.toArray []))
noncomputable def qo_267 (P : Params) : Obj := (PySem.Obj.mk (PySem.Value.type "tuple") none (PySem.Data.seq (List.toArray []) (0 : Nat)) (List.toArray []))
noncomputable def qo_268 (P : Params) : Obj := (PySem.Obj.mk PySem.Value.none none (PySem.Data.fields (List.toArray [])) (List.toArray []))
noncomputable def qo_269 (P : Params) : Obj := (PySem.Obj.mk (PySem.Value.type "tuple") none (PySem.Data.seq (List.toArray [(PySem.Value.str (so "text") (523 : Nat)), (PySem.Value.str (so "at") (524 : Nat)), (PySem.Value.str (so "end") (525 : Nat)), (PySem.Value.str (so "behind") (526 : Nat))]) (0 : Nat)) (List.toArray []))
noncomputable def qo_270 (P : Params) : Obj := (PySem.Obj.mk (PySem.Value.type "tuple") none (PySem.Data.seq (List.toArray []) (0 : Nat)) (List.toArray []))
noncomputable def qo_271 (P : Params) : Obj := (PySem.Obj.mk PySem.Value.none none (PySem.Data.func (PySem.FuncData.mk (so "base_end") (so "base_end") pa223 (PySem.FuncBody.stmts bo223) sc223 (0 : Nat) (@List.nil (PySem.Str × Nat)) PySem.Value.none PySem.Value.none PySem.Value.none PySem.Value.none none PySem.Value.none PySem.Value.none (0 : Nat))) (List.toArray []))
noncomputable def qo_272 (P : Params) : Obj := (PySem.Obj.mk (PySem.Value.type "code") none (PySem.Data.fields (List.toArray [(PySem.Value.str (so "base_end") (520 : Nat)), (PySem.Value.str (so "base_end") (521 : Nat)), (PySem.Value.str (so "/claim/cut.py") (522 : Nat)), (PySem.Value.int (226 : Int) (0 : Nat)), (PySem.Value.int (2 : Int) (0 : Nat)), (PySem.Value.int (0 : Int) (0 : Nat)), (PySem.Value.int (0 : Int) (0 : Nat)), (PySem.Value.int (3 : Int) (0 : Nat)), (PySem.Value.ref (217 : Nat)), (PySem.Value.bool Bool.true), (PySem.Value.int (181 : Int) (0 : Nat)), (PySem.Value.ref (218 : Nat)), PySem.Value.none, (PySem.Value.ref (219 : Nat)), (PySem.Value.ref (220 : Nat)), (PySem.Value.ref (221 : Nat)), (PySem.Value.int (527 : Int) (0 : Nat)), (PySem.Value.int (226 : Int) (0 : Nat)), (PySem.Value.str (so "/claim/cut.py") (528 : Nat))])) (List.toArray []))
noncomputable def qo_273 (P : Params) : Obj := (PySem.Obj.mk (PySem.Value.type "function") none (PySem.Data.func (PySem.FuncData.mk (so "base_end") (so "base_end") pa223 (PySem.FuncBody.stmts bo223) sc223 (3 : Nat) (@List.nil (PySem.Str × Nat)) PySem.Value.none PySem.Value.none PySem.Value.none (PySem.Value.str (so "perlcore.interp") (435 : Nat)) none (PySem.Value.ref (222 : Nat)) PySem.Value.none (0 : Nat))) (List.toArray []))
noncomputable def qo_274 (P : Params) : Obj := (PySem.Obj.mk (PySem.Value.type "tuple") none (PySem.Data.seq (List.toArray []) (0 : Nat)) (List.toArray []))
noncomputable def qo_275 (P : Params) : Obj := (PySem.Obj.mk PySem.Value.none none (PySem.Data.fields (List.toArray [])) (List.toArray []))
noncomputable def qo_276 (P : Params) : Obj := (PySem.Obj.mk (PySem.Value.type "tuple") none (PySem.Data.seq (List.toArray [(PySem.Value.str (so "text") (533 : Nat)), (PySem.Value.str (so "at") (534 : Nat)), (PySem.Value.str (so "is_pattern") (535 : Nat)), (PySem.Value.str (so "sign") (536 : Nat)), (PySem.Value.str (so "end") (537 : Nat))]) (0 : Nat)) (List.toArray []))
noncomputable def qo_277 (P : Params) : Obj := (PySem.Obj.mk (PySem.Value.type "tuple") none (PySem.Data.seq (List.toArray []) (0 : Nat)) (List.toArray []))
noncomputable def qo_278 (P : Params) : Obj := (PySem.Obj.mk PySem.Value.none none (PySem.Data.func (PySem.FuncData.mk (so "scalar_end") (so "scalar_end") pa230 (PySem.FuncBody.stmts bo230) sc230 (0 : Nat) (@List.nil (PySem.Str × Nat)) PySem.Value.none PySem.Value.none PySem.Value.none PySem.Value.none none PySem.Value.none PySem.Value.none (0 : Nat))) (List.toArray []))
noncomputable def qo_279 (P : Params) : Obj := (PySem.Obj.mk (PySem.Value.type "code") none (PySem.Data.fields (List.toArray [(PySem.Value.str (so "scalar_end") (530 : Nat)), (PySem.Value.str (so "scalar_end") (531 : Nat)), (PySem.Value.str (so "/claim/cut.py") (532 : Nat)), (PySem.Value.int (235 : Int) (0 : Nat)), (PySem.Value.int (3 : Int) (0 : Nat)), (PySem.Value.int (0 : Int) (0 : Nat)), (PySem.Value.int (0 : Int) (0 : Nat)), (PySem.Value.int (3 : Int) (0 : Nat)), (PySem.Value.ref (224 : Nat)), (PySem.Value.bool Bool.true), (PySem.Value.int (181 : Int) (0 : Nat)), (PySem.Value.ref (225 : Nat)), PySem.Value.none, (PySem.Value.ref (226 : Nat)), (PySem.Value.ref (227 : Nat)), (PySem.Value.ref (228 : Nat)), (PySem.Value.int (538 : Int) (0 : Nat)), (PySem.Value.int (235 : Int) (0 : Nat)), (PySem.Value.str (so "/claim/cut.py") (539 : Nat))])) (List.toArray []))
noncomputable def qo_280 (P : Params) : Obj := (PySem.Obj.mk (PySem.Value.type "function") none (PySem.Data.func (PySem.FuncData.mk (so "scalar_end") (so "scalar_end") pa230 (PySem.FuncBody.stmts bo230) sc230 (3 : Nat) (@List.nil (PySem.Str × Nat)) PySem.Value.none PySem.Value.none PySem.Value.none (PySem.Value.str (so "perlcore.interp") (435 : Nat)) none (PySem.Value.ref (229 : Nat)) PySem.Value.none (0 : Nat))) (List.toArray []))
noncomputable def qo_281 (P : Params) : Obj := (PySem.Obj.mk (PySem.Value.type "tuple") none (PySem.Data.seq (List.toArray []) (0 : Nat)) (List.toArray []))
noncomputable def qo_282 (P : Params) : Obj := (PySem.Obj.mk PySem.Value.none none (PySem.Data.fields (List.toArray [])) (List.toArray []))
noncomputable def qo_283 (P : Params) : Obj := (PySem.Obj.mk (PySem.Value.type "tuple") none (PySem.Data.seq (List.toArray [(PySem.Value.str (so "text") (544 : Nat)), (PySem.Value.str (so "at") (545 : Nat)), (PySem.Value.str (so "is_pattern") (546 : Nat)), (PySem.Value.str (so "end") (547 : Nat))]) (0 : Nat)) (List.toArray []))
noncomputable def qo_284 (P : Params) : Obj := (PySem.Obj.mk (PySem.Value.type "tuple") none (PySem.Data.seq (List.toArray []) (0 : Nat)) (List.toArray []))
noncomputable def qo_285 (P : Params) : Obj := (PySem.Obj.mk PySem.Value.none none (PySem.Data.func (PySem.FuncData.mk (so "array_end") (so "array_end") pa237 (PySem.FuncBody.stmts bo237) sc237 (0 : Nat) (@List.nil (PySem.Str × Nat)) PySem.Value.none PySem.Value.none PySem.Value.none PySem.Value.none none PySem.Value.none PySem.Value.none (0 : Nat))) (List.toArray []))
noncomputable def qo_286 (P : Params) : Obj := (PySem.Obj.mk (PySem.Value.type "code") none (PySem.Data.fields (List.toArray [(PySem.Value.str (so "array_end") (541 : Nat)), (PySem.Value.str (so "array_end") (542 : Nat)), (PySem.Value.str (so "/claim/cut.py") (543 : Nat)), (PySem.Value.int (253 : Int) (0 : Nat)), (PySem.Value.int (3 : Int) (0 : Nat)), (PySem.Value.int (0 : Int) (0 : Nat)), (PySem.Value.int (0 : Int) (0 : Nat)), (PySem.Value.int (3 : Int) (0 : Nat)), (PySem.Value.ref (231 : Nat)), (PySem.Value.bool Bool.true), (PySem.Value.int (181 : Int) (0 : Nat)), (PySem.Value.ref (232 : Nat)), PySem.Value.none, (PySem.Value.ref (233 : Nat)), (PySem.Value.ref (234 : Nat)), (PySem.Value.ref (235 : Nat)), (PySem.Value.int (548 : Int) (0 : Nat)), (PySem.Value.int (253 : Int) (0 : Nat)), (PySem.Value.str (so "/claim/cut.py") (549 : Nat))])) (List.toArray []))
noncomputable def qo_287 (P : Params) : Obj := (PySem.Obj.mk (PySem.Value.type "function") none (PySem.Data.func (PySem.FuncData.mk (so "array_end") (so "array_end") pa237 (PySem.FuncBody.stmts bo237) sc237 (3 : Nat) (@List.nil (PySem.Str × Nat)) PySem.Value.none PySem.Value.none PySem.Value.none (PySem.Value.str (so "perlcore.interp") (435 : Nat)) none (PySem.Value.ref (236 : Nat)) PySem.Value.none (0 : Nat))) (List.toArray []))
noncomputable def qo_288 (P : Params) : Obj := (PySem.Obj.mk (PySem.Value.type "tuple") none (PySem.Data.seq (List.toArray []) (0 : Nat)) (List.toArray []))
noncomputable def qo_289 (P : Params) : Obj := (PySem.Obj.mk PySem.Value.none none (PySem.Data.fields (List.toArray [])) (List.toArray []))
noncomputable def qo_290 (P : Params) : Obj := (PySem.Obj.mk (PySem.Value.type "tuple") none (PySem.Data.seq (List.toArray [(PySem.Value.str (so "stack") (554 : Nat)), (PySem.Value.str (so "part") (555 : Nat)), (PySem.Value.str (so "parts") (556 : Nat))]) (0 : Nat)) (List.toArray []))
noncomputable def qo_291 (P : Params) : Obj := (PySem.Obj.mk (PySem.Value.type "tuple") none (PySem.Data.seq (List.toArray []) (0 : Nat)) (List.toArray []))
noncomputable def qo_292 (P : Params) : Obj := (PySem.Obj.mk PySem.Value.none none (PySem.Data.func (PySem.FuncData.mk (so "add_part") (so "add_part") pa244 (PySem.FuncBody.stmts bo244) sc244 (0 : Nat) (@List.nil (PySem.Str × Nat)) PySem.Value.none PySem.Value.none PySem.Value.none PySem.Value.none none PySem.Value.none PySem.Value.none (0 : Nat))) (List.toArray []))
noncomputable def qo_293 (P : Params) : Obj := (PySem.Obj.mk (PySem.Value.type "code") none (PySem.Data.fields (List.toArray [(PySem.Value.str (so "add_part") (551 : Nat)), (PySem.Value.str (so "add_part") (552 : Nat)), (PySem.Value.str (so "/claim/cut.py") (553 : Nat)), (PySem.Value.int (258 : Int) (0 : Nat)), (PySem.Value.int (2 : Int) (0 : Nat)), (PySem.Value.int (0 : Int) (0 : Nat)), (PySem.Value.int (0 : Int) (0 : Nat)), (PySem.Value.int (3 : Int) (0 : Nat)), (PySem.Value.ref (238 : Nat)), (PySem.Value.bool Bool.true), (PySem.Value.int (181 : Int) (0 : Nat)), (PySem.Value.ref (239 : Nat)), PySem.Value.none, (PySem.Value.ref (240 : Nat)), (PySem.Value.ref (241 : Nat)), (PySem.Value.ref (242 : Nat)), (PySem.Value.int (557 : Int) (0 : Nat)), (PySem.Value.int (258 : Int) (0 : Nat)), (PySem.Value.str (so "/claim/cut.py") (558 : Nat))])) (List.toArray []))
noncomputable def qo_294 (P : Params) : Obj := (PySem.Obj.mk (PySem.Value.type "function") none (PySem.Data.func (PySem.FuncData.mk (so "add_part") (so "add_part") pa244 (PySem.FuncBody.stmts bo244) sc244 (3 : Nat) (@List.nil (PySem.Str × Nat)) PySem.Value.none PySem.Value.none PySem.Value.none (PySem.Value.str (so "perlcore.interp") (435 : Nat)) none (PySem.Value.ref (243 : Nat)) PySem.Value.none (0 : Nat))) (List.toArray []))
noncomputable def qo_295 (P : Params) : Obj := (PySem.Obj.mk (PySem.Value.type "tuple") none (PySem.Data.seq (List.toArray []) (0 : Nat)) (List.toArray []))
noncomputable def qo_296 (P : Params) : Obj := (PySem.Obj.mk PySem.Value.none none (PySem.Data.fields (List.toArray [])) (List.toArray []))
noncomputable def qo_297 (P : Params) : Obj := (PySem.Obj.mk (PySem.Value.type "tuple") none (PySem.Data.seq (List.toArray [(PySem.Value.str (so "stack") (563 : Nat)), (PySem.Value.str (so "mark") (564 : Nat)), (PySem.Value.str (so "parts") (565 : Nat))]) (0 : Nat)) (List.toArray []))
noncomputable def qo_298 (P : Params) : Obj := (PySem.Obj.mk (PySem.Value.type "tuple") none (PySem.Data.seq (List.toArray []) (0 : Nat)) (List.toArray []))
noncomputable def qo_299 (P : Params) : Obj := (PySem.Obj.mk PySem.Value.none none (PySem.Data.func (PySem.FuncData.mk (so "close_case") (so "close_case") pa251 (PySem.FuncBody.stmts bo251) sc251 (0 : Nat) (@List.nil (PySem.Str × Nat)) PySem.Value.none PySem.Value.none PySem.Value.none PySem.Value.none none PySem.Value.none PySem.Value.none (0 : Nat))) (List.toArray []))
noncomputable def qo_300 (P : Params) : Obj := (PySem.Obj.mk (PySem.Value.type "code") none (PySem.Data.fields (List.toArray [(PySem.Value.str (so "close_case") (560 : Nat)), (PySem.Value.str (so "close_case") (561 : Nat)), (PySem.Value.str (so "/claim/cut.py") (562 : Nat)), (PySem.Value.int (266 : Int) (0 : Nat)), (PySem.Value.int (1 : Int) (0 : Nat)), (PySem.Value.int (0 : Int) (0 : Nat)), (PySem.Value.int (0 : Int) (0 : Nat)), (PySem.Value.int (3 : Int) (0 : Nat)), (PySem.Value.ref (245 : Nat)), (PySem.Value.bool Bool.true), (PySem.Value.int (181 : Int) (0 : Nat)), (PySem.Value.ref (246 : Nat)), PySem.Value.none, (PySem.Value.ref (247 : Nat)), (PySem.Value.ref (248 : Nat)), (PySem.Value.ref (249 : Nat)), (PySem.Value.int (566 : Int) (0 : Nat)), (PySem.Value.int (266 : Int) (0 : Nat)), (PySem.Value.str (so "/claim/cut.py") (567 : Nat))])) (List.toArray []))
noncomputable def qo_301 (P : Params) : Obj := (PySem.Obj.mk (PySem.Value.type "function") none (PySem.Data.func (PySem.FuncData.mk (so "close_case") (so "close_case") pa251 (PySem.FuncBody.stmts bo251) sc251 (3 : Nat) (@List.nil (PySem.Str × Nat)) PySem.Value.none PySem.Value.none PySem.Value.none (PySem.Value.str (so "perlcore.interp") (435 : Nat)) none (PySem.Value.ref (250 : Nat)) PySem.Value.none (0 : Nat))) (List.toArray []))
noncomputable def qo_302 (P : Params) : Obj := (PySem.Obj.mk (PySem.Value.type "tuple") none (PySem.Data.seq (List.toArray []) (0 : Nat)) (List.toArray []))
noncomputable def qo_303 (P : Params) : Obj := (PySem.Obj.mk PySem.Value.none none (PySem.Data.fields (List.toArray [])) (List.toArray []))
noncomputable def qo_304 (P : Params) : Obj := (PySem.Obj.mk (PySem.Value.type "tuple") none (PySem.Data.seq (List.toArray [(PySem.Value.str (so "stack") (572 : Nat))]) (0 : Nat)) (List.toArray []))
noncomputable def qo_305 (P : Params) : Obj := (PySem.Obj.mk (PySem.Value.type "tuple") none (PySem.Data.seq (List.toArray []) (0 : Nat)) (List.toArray []))
noncomputable def qo_306 (P : Params) : Obj := (PySem.Obj.mk PySem.Value.none none (PySem.Data.func (PySem.FuncData.mk (so "end_case") (so "end_case") pa258 (PySem.FuncBody.stmts bo258) sc258 (0 : Nat) (@List.nil (PySem.Str × Nat)) PySem.Value.none PySem.Value.none PySem.Value.none PySem.Value.none none PySem.Value.none PySem.Value.none (0 : Nat))) (List.toArray []))
noncomputable def qo_307 (P : Params) : Obj := (PySem.Obj.mk (PySem.Value.type "code") none (PySem.Data.fields (List.toArray [(PySem.Value.str (so "end_case") (569 : Nat)), (PySem.Value.str (so "end_case") (570 : Nat)), (PySem.Value.str (so "/claim/cut.py") (571 : Nat)), (PySem.Value.int (272 : Int) (0 : Nat)), (PySem.Value.int (1 : Int) (0 : Nat)), (PySem.Value.int (0 : Int) (0 : Nat)), (PySem.Value.int (0 : Int) (0 : Nat)), (PySem.Value.int (3 : Int) (0 : Nat)), (PySem.Value.ref (252 : Nat)), (PySem.Value.bool Bool.true), (PySem.Value.int (181 : Int) (0 : Nat)), (PySem.Value.ref (253 : Nat)), PySem.Value.none, (PySem.Value.ref (254 : Nat)), (PySem.Value.ref (255 : Nat)), (PySem.Value.ref (256 : Nat)), (PySem.Value.int (573 : Int) (0 : Nat)), (PySem.Value.int (272 : Int) (0 : Nat)), (PySem.Value.str (so "/claim/cut.py") (574 : Nat))])) (List.toArray []))
noncomputable def qo_308 (P : Params) : Obj := (PySem.Obj.mk (PySem.Value.type "function") none (PySem.Data.func (PySem.FuncData.mk (so "end_case") (so "end_case") pa258 (PySem.FuncBody.stmts bo258) sc258 (3 : Nat) (@List.nil (PySem.Str × Nat)) PySem.Value.none PySem.Value.none PySem.Value.none (PySem.Value.str (so "perlcore.interp") (435 : Nat)) none (PySem.Value.ref (257 : Nat)) PySem.Value.none (0 : Nat))) (List.toArray []))
noncomputable def qo_309 (P : Params) : Obj := (PySem.Obj.mk (PySem.Value.type "tuple") none (PySem.Data.seq (List.toArray []) (0 : Nat)) (List.toArray []))
noncomputable def qo_310 (P : Params) : Obj := (PySem.Obj.mk PySem.Value.none none (PySem.Data.fields (List.toArray [])) (List.toArray []))
noncomputable def qo_311 (P : Params) : Obj := (PySem.Obj.mk (PySem.Value.type "tuple") none (PySem.Data.seq (List.toArray [(PySem.Value.str (so "stack") (579 : Nat)), (PySem.Value.str (so "mark") (580 : Nat))]) (0 : Nat)) (List.toArray []))
noncomputable def qo_312 (P : Params) : Obj := (PySem.Obj.mk (PySem.Value.type "tuple") none (PySem.Data.seq (List.toArray []) (0 : Nat)) (List.toArray []))
noncomputable def qo_313 (P : Params) : Obj := (PySem.Obj.mk PySem.Value.none none (PySem.Data.func (PySem.FuncData.mk (so "begin_case") (so "begin_case") pa265 (PySem.FuncBody.stmts bo265) sc265 (0 : Nat) (@List.nil (PySem.Str × Nat)) PySem.Value.none PySem.Value.none PySem.Value.none PySem.Value.none none PySem.Value.none PySem.Value.none (0 : Nat))) (List.toArray []))
noncomputable def qo_314 (P : Params) : Obj := (PySem.Obj.mk (PySem.Value.type "code") none (PySem.Data.fields (List.toArray [(PySem.Value.str (so "begin_case") (576 : Nat)), (PySem.Value.str (so "begin_case") (577 : Nat)), (PySem.Value.str (so "/claim/cut.py") (578 : Nat)), (PySem.Value.int (277 : Int) (0 : Nat)), (PySem.Value.int (2 : Int) (0 : Nat)), (PySem.Value.int (0 : Int) (0 : Nat)), (PySem.Value.int (0 : Int) (0 : Nat)), (PySem.Value.int (3 : Int) (0 : Nat)), (PySem.Value.ref (259 : Nat)), (PySem.Value.bool Bool.true), (PySem.Value.int (181 : Int) (0 : Nat)), (PySem.Value.ref (260 : Nat)), PySem.Value.none, (PySem.Value.ref (261 : Nat)), (PySem.Value.ref (262 : Nat)), (PySem.Value.ref (263 : Nat)), (PySem.Value.int (581 : Int) (0 : Nat)), (PySem.Value.int (277 : Int) (0 : Nat)), (PySem.Value.str (so "/claim/cut.py") (582 : Nat))])) (List.toArray []))
noncomputable def qo_315 (P : Params) : Obj := (PySem.Obj.mk (PySem.Value.type "function") none (PySem.Data.func (PySem.FuncData.mk (so "begin_case") (so "begin_case") pa265 (PySem.FuncBody.stmts bo265) sc265 (3 : Nat) (@List.nil (PySem.Str × Nat)) PySem.Value.none PySem.Value.none PySem.Value.none (PySem.Value.str (so "perlcore.interp") (435 : Nat)) none (PySem.Value.ref (264 : Nat)) PySem.Value.none (0 : Nat))) (List.toArray []))
noncomputable def qo_316 (P : Params) : Obj := (PySem.Obj.mk (PySem.Value.type "tuple") none (PySem.Data.seq (List.toArray []) (0 : Nat)) (List.toArray []))
noncomputable def qo_317 (P : Params) : Obj := (PySem.Obj.mk PySem.Value.none none (PySem.Data.fields (List.toArray [])) (List.toArray []))
noncomputable def qo_318 (P : Params) : Obj := (PySem.Obj.mk (PySem.Value.type "tuple") none (PySem.Data.seq (List.toArray [(PySem.Value.str (so "stack") (587 : Nat)), (PySem.Value.str (so "text") (588 : Nat)), (PySem.Value.str (so "at") (589 : Nat)), (PySem.Value.str (so "mark") (590 : Nat)), (PySem.Value.str (so "pair") (591 : Nat))]) (0 : Nat)) (List.toArray []))
noncomputable def qo_319 (P : Params) : Obj := (PySem.Obj.mk (PySem.Value.type "tuple") none (PySem.Data.seq (List.toArray []) (0 : Nat)) (List.toArray []))
noncomputable def qo_320 (P : Params) : Obj := (PySem.Obj.mk PySem.Value.none none (PySem.Data.func (PySem.FuncData.mk (so "take_case") (so "take_case") pa272 (PySem.FuncBody.stmts bo272) sc272 (0 : Nat) (@List.nil (PySem.Str × Nat)) PySem.Value.none PySem.Value.none PySem.Value.none PySem.Value.none none PySem.Value.none PySem.Value.none (0 : Nat))) (List.toArray []))
noncomputable def qo_321 (P : Params) : Obj := (PySem.Obj.mk (PySem.Value.type "code") none (PySem.Data.fields (List.toArray [(PySem.Value.str (so "take_case") (584 : Nat)), (PySem.Value.str (so "take_case") (585 : Nat)), (PySem.Value.str (so "/claim/cut.py") (586 : Nat)), (PySem.Value.int (281 : Int) (0 : Nat)), (PySem.Value.int (3 : Int) (0 : Nat)), (PySem.Value.int (0 : Int) (0 : Nat)), (PySem.Value.int (0 : Int) (0 : Nat)), (PySem.Value.int (3 : Int) (0 : Nat)), (PySem.Value.ref (266 : Nat)), (PySem.Value.bool Bool.true), (PySem.Value.int (181 : Int) (0 : Nat)), (PySem.Value.ref (267 : Nat)), PySem.Value.none, (PySem.Value.ref (268 : Nat)), (PySem.Value.ref (269 : Nat)), (PySem.Value.ref (270 : Nat)), (PySem.Value.int (592 : Int) (0 : Nat)), (PySem.Value.int (281 : Int) (0 : Nat)), (PySem.Value.str (so "/claim/cut.py") (593 : Nat))])) (List.toArray []))
noncomputable def qo_322 (P : Params) : Obj := (PySem.Obj.mk (PySem.Value.type "function") none (PySem.Data.func (PySem.FuncData.mk (so "take_case") (so "take_case") pa272 (PySem.FuncBody.stmts bo272) sc272 (3 : Nat) (@List.nil (PySem.Str × Nat)) PySem.Value.none PySem.Value.none PySem.Value.none (PySem.Value.str (so "perlcore.interp") (435 : Nat)) none (PySem.Value.ref (271 : Nat)) PySem.Value.none (0 : Nat))) (List.toArray []))
noncomputable def qo_323 (P : Params) : Obj := (PySem.Obj.mk (PySem.Value.type "dict") none (PySem.Data.dict (List.toArray ((PySem.DictEntry.mk (kh P (so "__name__")) (PySem.Value.str (so "__name__") (165 : Nat)) (PySem.Value.str (so "law_nz0190_01") (628 : Nat))) :: (PySem.DictEntry.mk (kh P (so "__doc__")) (PySem.Value.str (so "__doc__") (166 : Nat)) PySem.Value.none) :: (PySem.DictEntry.mk (kh P (so "__package__")) (PySem.Value.str (so "__package__") (167 : Nat)) PySem.Value.none) :: (PySem.DictEntry.mk (kh P (so "__loader__")) (PySem.Value.str (so "__loader__") (168 : Nat)) (PySem.Value.builtin "__main__.__loader__#opaque")) :: (PySem.DictEntry.mk (kh P (so "__spec__")) (PySem.Value.str (so "__spec__") (169 : Nat)) PySem.Value.none) :: (PySem.DictEntry.mk (kh P (so "__annotations__")) (PySem.Value.str (so "__annotations__") (170 : Nat)) (PySem.Value.ref (6 : Nat))) :: (PySem.DictEntry.mk (kh P (so "__builtins__")) (PySem.Value.str (so "__builtins__") (171 : Nat)) (PySem.Value.ref (4 : Nat))) :: (PySem.DictEntry.mk (kh P (so "__file__")) (PySem.Value.str (so "__file__") (173 : Nat)) (PySem.Value.str (so "/claim/cut.py") (172 : Nat))) :: (PySem.DictEntry.mk (kh P (so "__cached__")) (PySem.Value.str (so "__cached__") (174 : Nat)) PySem.Value.none) :: (PySem.DictEntry.mk (kh P (so "PerlError")) (PySem.Value.str (so "PerlError") (217 : Nat)) (PySem.Value.ref (31 : Nat))) :: (PySem.DictEntry.mk (kh P (so "SyntaxDie")) (PySem.Value.str (so "SyntaxDie") (243 : Nat)) (PySem.Value.ref (51 : Nat))) :: (PySem.DictEntry.mk (kh P (so "CLOSERS")) (PySem.Value.str (so "CLOSERS") (258 : Nat)) (PySem.Value.ref (54 : Nat))) :: (PySem.DictEntry.mk (kh P (so "SHORT_ESCAPES")) (PySem.Value.str (so "SHORT_ESCAPES") (280 : Nat)) (PySem.Value.ref (55 : Nat))) :: (PySem.DictEntry.mk (kh P (so "CODE_FIGURES")) (PySem.Value.str (so "CODE_FIGURES") (282 : Nat)) (PySem.Value.str (so "0123456789abcdef") (281 : Nat))) :: (PySem.DictEntry.mk (kh P (so "TOP_CODE")) (PySem.Value.str (so "TOP_CODE") (284 : Nat)) (PySem.Value.int (1114111 : Int) (283 : Nat))) :: (PySem.DictEntry.mk (kh P (so "closer_of")) (PySem.Value.str (so "closer_of") (291 : Nat)) (PySem.Value.ref (62 : Nat))) :: (PySem.DictEntry.mk (kh P (so "line_of_place")) (PySem.Value.str (so "line_of_place") (299 : Nat)) (PySem.Value.ref (69 : Nat))) :: (PySem.DictEntry.mk (kh P (so "delimited")) (PySem.Value.str (so "delimited") (312 : Nat)) (PySem.Value.ref (76 : Nat))) :: (PySem.DictEntry.mk (kh P (so "unguarded")) (PySem.Value.str (so "unguarded") (325 : Nat)) (PySem.Value.ref (83 : Nat))) :: (PySem.DictEntry.mk (kh P (so "read_q")) (PySem.Value.str (so "read_q") (333 : Nat)) (PySem.Value.ref (90 : Nat))) :: (PySem.DictEntry.mk (kh P (so "digits_value")) (PySem.Value.str (so "digits_value") (346 : Nat)) (PySem.Value.ref (97 : Nat))) :: (PySem.DictEntry.mk (kh P (so "coded_sign")) (PySem.Value.str (so "coded_sign") (353 : Nat)) (PySem.Value.ref (104 : Nat))) :: (PySem.DictEntry.mk (kh P (so "braced_code")) (PySem.Value.str (so "braced_code") (365 : Nat)) (PySem.Value.ref (111 : Nat))) :: (PySem.DictEntry.mk (kh P (so "escape_at")) (PySem.Value.str (so "escape_at") (376 : Nat)) (PySem.Value.ref (118 : Nat))) :: (PySem.DictEntry.mk (kh P (so "great_letter")) (PySem.Value.str (so "great_letter") (383 : Nat)) (PySem.Value.ref (125 : Nat))) :: (PySem.DictEntry.mk (kh P (so "small_letter")) (PySem.Value.str (so "small_letter") (390 : Nat)) (PySem.Value.ref (132 : Nat))) :: (PySem.DictEntry.mk (kh P (so "is_plain_word_sign")) (PySem.Value.str (so "is_plain_word_sign") (397 : Nat)) (PySem.Value.ref (139 : Nat))) :: (PySem.DictEntry.mk (kh P (so "cased_text")) (PySem.Value.str (so "cased_text") (407 : Nat)) (PySem.Value.ref (146 : Nat))) :: (PySem.DictEntry.mk (kh P (so "here_end")) (PySem.Value.str (so "here_end") (419 : Nat)) (PySem.Value.ref (153 : Nat))) :: (PySem.DictEntry.mk (kh P (so "here_body")) (PySem.Value.str (so "here_body") (434 : Nat)) (PySem.Value.ref (160 : Nat))) :: (PySem.DictEntry.mk (kh P (so "SHORT_CASES")) (PySem.Value.str (so "SHORT_CASES") (438 : Nat)) (PySem.Value.str (so "ul") (437 : Nat))) :: (PySem.DictEntry.mk (kh P (so "PUNCTUATION")) (PySem.Value.str (so "PUNCTUATION") (440 : Nat)) (PySem.Value.str (so "&,;!@/\"") (439 : Nat))) :: (PySem.DictEntry.mk (kh P (so "is_name_start")) (PySem.Value.str (so "is_name_start") (447 : Nat)) (PySem.Value.ref (167 : Nat))) :: (PySem.DictEntry.mk (kh P (so "variable_name_end")) (PySem.Value.str (so "variable_name_end") (456 : Nat)) (PySem.Value.ref (174 : Nat))) :: (PySem.DictEntry.mk (kh P (so "quote_skip")) (PySem.Value.str (so "quote_skip") (465 : Nat)) (PySem.Value.ref (181 : Nat))) :: (PySem.DictEntry.mk (kh P (so "subscript_end")) (PySem.Value.str (so "subscript_end") (478 : Nat)) (PySem.Value.ref (188 : Nat))) :: (PySem.DictEntry.mk (kh P (so "digits_only")) (PySem.Value.str (so "digits_only") (486 : Nat)) (PySem.Value.ref (195 : Nat))) :: (PySem.DictEntry.mk (kh P (so "is_pattern_part")) (PySem.Value.str (so "is_pattern_part") (497 : Nat)) (PySem.Value.ref (202 : Nat))) :: (PySem.DictEntry.mk (kh P (so "one_subscript")) (PySem.Value.str (so "one_subscript") (507 : Nat)) (PySem.Value.ref (209 : Nat))) :: (PySem.DictEntry.mk (kh P (so "all_subscripts")) (PySem.Value.str (so "all_subscripts") (519 : Nat)) (PySem.Value.ref (216 : Nat))) :: (PySem.DictEntry.mk (kh P (so "base_end")) (PySem.Value.str (so "base_end") (529 : Nat)) (PySem.Value.ref (223 : Nat))) :: (PySem.DictEntry.mk (kh P (so "scalar_end")) (PySem.Value.str (so "scalar_end") (540 : Nat)) (PySem.Value.ref (230 : Nat))) :: (PySem.DictEntry.mk (kh P (so "array_end")) (PySem.Value.str (so "array_end") (550 : Nat)) (PySem.Value.ref (237 : Nat))) :: (PySem.DictEntry.mk (kh P (so "add_part")) (PySem.Value.str (so "add_part") (559 : Nat)) (PySem.Value.ref (244 : Nat))) :: (PySem.DictEntry.mk (kh P (so "close_case")) (PySem.Value.str (so "close_case") (568 : Nat)) (PySem.Value.ref (251 : Nat))) :: (PySem.DictEntry.mk (kh P (so "end_case")) (PySem.Value.str (so "end_case") (575 : Nat)) (PySem.Value.ref (258 : Nat))) :: (PySem.DictEntry.mk (kh P (so "begin_case")) (PySem.Value.str (so "begin_case") (583 : Nat)) (PySem.Value.ref (265 : Nat))) :: (PySem.DictEntry.mk (kh P (so "take_case")) (PySem.Value.str (so "take_case") (594 : Nat)) (PySem.Value.ref (272 : Nat))) :: (PySem.DictEntry.mk (kh P (so "take_piece")) (PySem.Value.str (so "take_piece") (607 : Nat)) (PySem.Value.ref (279 : Nat))) :: (PySem.DictEntry.mk (kh P (so "parts_of")) (PySem.Value.str (so "parts_of") (618 : Nat)) (PySem.Value.ref (286 : Nat))) :: (PySem.DictEntry.mk (kh P (so "plain_qq")) (PySem.Value.str (so "plain_qq") (627 : Nat)) (PySem.Value.ref (293 : Nat))) :: (PySem.DictEntry.mk (kh P (so "_law_signs")) (PySem.Value.str (so "_law_signs") (631 : Nat)) (PySem.Value.str (so "aZ_ (){}[]<>'\"/|\\\\$@\n\t\x00\x1b\x7féā☺09~n") (630 : Nat))) :: (PySem.DictEntry.mk (kh P (so "_law_ends")) (PySem.Value.str (so "_law_ends") (637 : Nat)) (PySem.Value.ref (300 : Nat))) :: (PySem.DictEntry.mk (kh P (so "_law_named")) (PySem.Value.str (so "_law_named") (656 : Nat)) (PySem.Value.ref (301 : Nat))) :: (PySem.DictEntry.mk (kh P (so "_law_take")) (PySem.Value.str (so "_law_take") (665 : Nat)) (PySem.Value.ref (308 : Nat))) :: (PySem.DictEntry.mk (kh P (so "_law_based")) (PySem.Value.str (so "_law_based") (674 : Nat)) (PySem.Value.ref (315 : Nat))) :: (PySem.DictEntry.mk (kh P (so "_law_in_q")) (PySem.Value.str (so "_law_in_q") (685 : Nat)) (PySem.Value.ref (322 : Nat))) :: (PySem.DictEntry.mk (kh P (so "_law_in_qq")) (PySem.Value.str (so "_law_in_qq") (698 : Nat)) (PySem.Value.ref (329 : Nat))) :: [])) (58 : Nat)) (List.toArray []))
noncomputable def qo_324 (P : Params) : Obj := (PySem.Obj.mk PySem.Value.none none (PySem.Data.fields (List.toArray ((PySem.Value.int (2 : Int) (0 : Nat)) :: (PySem.Value.int (0 : Int) (0 : Nat)) :: (PySem.Value.ref (20 : Nat)) :: (PySem.Value.int (7 : Int) (0 : Nat)) :: (PySem.Value.int (0 : Int) (0 : Nat)) :: (PySem.Value.ref (40 : Nat)) :: (PySem.Value.int (17 : Int) (0 : Nat)) :: (PySem.Value.int (0 : Int) (0 : Nat)) :: (PySem.Value.ref (61 : Nat)) :: (PySem.Value.int (19 : Int) (0 : Nat)) :: (PySem.Value.int (0 : Int) (0 : Nat)) :: (PySem.Value.ref (68 : Nat)) :: (PySem.Value.int (21 : Int) (0 : Nat)) :: (PySem.Value.int (0 : Int) (0 : Nat)) :: (PySem.Value.ref (75 : Nat)) :: (PySem.Value.int (39 : Int) (0 : Nat)) :: (PySem.Value.int (0 : Int) (0 : Nat)) :: (PySem.Value.ref (82 : Nat)) :: (PySem.Value.int (55 : Int) (0 : Nat)) :: (PySem.Value.int (0 : Int) (0 : Nat)) :: (PySem.Value.ref (89 : Nat)) :: (PySem.Value.int (57 : Int) (0 : Nat)) :: (PySem.Value.int (0 : Int) (0 : Nat)) :: (PySem.Value.ref (96 : Nat)) :: (PySem.Value.int (67 : Int) (0 : Nat)) :: (PySem.Value.int (0 : Int) (0 : Nat)) :: (PySem.Value.ref (103 : Nat)) :: (PySem.Value.int (71 : Int) (0 : Nat)) :: (PySem.Value.int (0 : Int) (0 : Nat)) :: (PySem.Value.ref (110 : Nat)) :: (PySem.Value.int (77 : Int) (0 : Nat)) :: (PySem.Value.int (0 : Int) (0 : Nat)) :: (PySem.Value.ref (117 : Nat)) :: (PySem.Value.int (98 : Int) (0 : Nat)) :: (PySem.Value.int (0 : Int) (0 : Nat)) :: (PySem.Value.ref (124 : Nat)) :: (PySem.Value.int (102 : Int) (0 : Nat)) :: (PySem.Value.int (0 : Int) (0 : Nat)) :: (PySem.Value.ref (131 : Nat)) :: (PySem.Value.int (106 : Int) (0 : Nat)) :: (PySem.Value.int (0 : Int) (0 : Nat)) :: (PySem.Value.ref (138 : Nat)) :: (PySem.Value.int (108 : Int) (0 : Nat)) :: (PySem.Value.int (0 : Int) (0 : Nat)) :: (PySem.Value.ref (145 : Nat)) :: (PySem.Value.int (124 : Int) (0 : Nat)) :: (PySem.Value.int (0 : Int) (0 : Nat)) :: (PySem.Value.ref (152 : Nat)) :: (PySem.Value.int (132 : Int) (0 : Nat)) :: (PySem.Value.int (0 : Int) (0 : Nat)) :: (PySem.Value.ref (159 : Nat)) :: (PySem.Value.int (147 : Int) (0 : Nat)) :: (PySem.Value.int (0 : Int) (0 : Nat)) :: (PySem.Value.ref (166 : Nat)) :: (PySem.Value.int (149 : Int) (0 : Nat)) :: (PySem.Value.int (0 : Int) (0 : Nat)) :: (PySem.Value.ref (173 : Nat)) :: (PySem.Value.int (163 : Int) (0 : Nat)) :: (PySem.Value.int (0 : Int) (0 : Nat)) :: (PySem.Value.ref (180 : Nat)) :: (PySem.Value.int (172 : Int) (0 : Nat)) :: (PySem.Value.int (0 : Int) (0 : Nat)) :: (PySem.Value.ref (187 : Nat)) :: (PySem.Value.int (193 : Int) (0 : Nat)) :: (PySem.Value.int (0 : Int) (0 : Nat)) :: (PySem.Value.ref (194 : Nat)) :: (PySem.Value.int (200 : Int) (0 : Nat)) :: (PySem.Value.int (0 : Int) (0 : Nat)) :: (PySem.Value.ref (201 : Nat)) :: (PySem.Value.int (209 : Int) (0 : Nat)) :: (PySem.Value.int (0 : Int) (0 : Nat)) :: (PySem.Value.ref (208 : Nat)) :: (PySem.Value.int (216 : Int) (0 : Nat)) :: (PySem.Value.int (0 : Int) (0 : Nat)) :: (PySem.Value.ref (215 : Nat)) :: (PySem.Value.int (226 : Int) (0 : Nat)) :: (PySem.Value.int (0 : Int) (0 : Nat)) :: (PySem.Value.ref (222 : Nat)) :: (PySem.Value.int (235 : Int) (0 : Nat)) :: (PySem.Value.int (0 : Int) (0 : Nat)) :: (PySem.Value.ref (229 : Nat)) :: (PySem.Value.int (253 : Int) (0 : Nat)) :: (PySem.Value.int (0 : Int) (0 : Nat)) :: (PySem.Value.ref (236 : Nat)) :: (PySem.Value.int (258 : Int) (0 : Nat)) :: (PySem.Value.int (0 : Int) (0 : Nat)) :: (PySem.Value.ref (243 : Nat)) :: (PySem.Value.int (266 : Int) (0 : Nat)) :: (PySem.Value.int (0 : Int) (0 : Nat)) :: (PySem.Value.ref (250 : Nat)) :: (PySem.Value.int (272 : Int) (0 : Nat)) :: (PySem.Value.int (0 : Int) (0 : Nat)) :: (PySem.Value.ref (257 : Nat)) :: (PySem.Value.int (277 : Int) (0 : Nat)) :: (PySem.Value.int (0 : Int) (0 : Nat)) :: (PySem.Value.ref (264 : Nat)) :: (PySem.Value.int (281 : Int) (0 : Nat)) :: (PySem.Value.int (0 : Int) (0 : Nat)) :: (PySem.Value.ref (271 : Nat)) :: (PySem.Value.int (295 : Int) (0 : Nat)) :: (PySem.Value.int (0 : Int) (0 : Nat)) :: (PySem.Value.ref (278 : Nat)) :: (PySem.Value.int (314 : Int) (0 : Nat)) :: (PySem.Value.int (0 : Int) (0 : Nat)) :: (PySem.Value.ref (285 : Nat)) :: (PySem.Value.int (326 : Int) (0 : Nat)) :: (PySem.Value.int (0 : Int) (0 : Nat)) :: (PySem.Value.ref (292 : Nat)) :: (PySem.Value.int (335 : Int) (0 : Nat)) :: (PySem.Value.int (0 : Int) (0 : Nat)) :: (PySem.Value.ref (299 : Nat)) :: (PySem.Value.int (338 : Int) (0 : Nat)) :: (PySem.Value.int (0 : Int) (0 : Nat)) :: (PySem.Value.ref (307 : Nat)) :: (PySem.Value.int (344 : Int) (0 : Nat)) :: (PySem.Value.int (0 : Int) (0 : Nat)) :: (PySem.Value.ref (314 : Nat)) :: (PySem.Value.int (350 : Int) (0 : Nat)) :: (PySem.Value.int (0 : Int) (0 : Nat)) :: (PySem.Value.ref (321 : Nat)) :: (PySem.Value.int (357 : Int) (0 : Nat)) :: (PySem.Value.int (0 : Int) (0 : Nat)) :: (PySem.Value.ref (328 : Nat)) :: []))) (List.toArray []))
noncomputable def qo_325 (P : Params) : Obj := (PySem.Obj.mk (PySem.Value.type "tuple") none (PySem.Data.seq (List.toArray []) (0 : Nat)) (List.toArray []))
noncomputable def qo_326 (P : Params) : Obj := (PySem.Obj.mk PySem.Value.none none (PySem.Data.fields (List.toArray [])) (List.toArray []))
noncomputable def qo_327 (P : Params) : Obj := (PySem.Obj.mk (PySem.Value.type "tuple") none (PySem.Data.seq (List.toArray [(PySem.Value.str (so "stack") (598 : Nat)), (PySem.Value.str (so "text") (599 : Nat)), (PySem.Value.str (so "at") (600 : Nat)), (PySem.Value.str (so "is_pattern") (601 : Nat)), (PySem.Value.str (so "sign") (602 : Nat)), (PySem.Value.str (so "piece") (603 : Nat)), (PySem.Value.str (so "behind") (604 : Nat))]) (0 : Nat)) (List.toArray []))
noncomputable def qo_328 (P : Params) : Obj := (PySem.Obj.mk (PySem.Value.type "tuple") none (PySem.Data.seq (List.toArray []) (0 : Nat)) (List.toArray []))
noncomputable def qo_329 (P : Params) : Obj := (PySem.Obj.mk PySem.Value.none none (PySem.Data.func (PySem.FuncData.mk (so "take_piece") (so "take_piece") pa279 (PySem.FuncBody.stmts bo279) sc279 (0 : Nat) (@List.nil (PySem.Str × Nat)) PySem.Value.none PySem.Value.none PySem.Value.none PySem.Value.none none PySem.Value.none PySem.Value.none (0 : Nat))) (List.toArray []))
noncomputable def qo_330 (P : Params) : Obj := (PySem.Obj.mk (PySem.Value.type "code") none (PySem.Data.fields (List.toArray [(PySem.Value.str (so "take_piece") (595 : Nat)), (PySem.Value.str (so "take_piece") (596 : Nat)), (PySem.Value.str (so "/claim/cut.py") (597 : Nat)), (PySem.Value.int (295 : Int) (0 : Nat)), (PySem.Value.int (4 : Int) (0 : Nat)), (PySem.Value.int (0 : Int) (0 : Nat)), (PySem.Value.int (0 : Int) (0 : Nat)), (PySem.Value.int (3 : Int) (0 : Nat)), (PySem.Value.ref (273 : Nat)), (PySem.Value.bool Bool.true), (PySem.Value.int (181 : Int) (0 : Nat)), (PySem.Value.ref (274 : Nat)), PySem.Value.none, (PySem.Value.ref (275 : Nat)), (PySem.Value.ref (276 : Nat)), (PySem.Value.ref (277 : Nat)), (PySem.Value.int (605 : Int) (0 : Nat)), (PySem.Value.int (295 : Int) (0 : Nat)), (PySem.Value.str (so "/claim/cut.py") (606 : Nat))])) (List.toArray []))
noncomputable def qo_331 (P : Params) : Obj := (PySem.Obj.mk (PySem.Value.type "function") none (PySem.Data.func (PySem.FuncData.mk (so "take_piece") (so "take_piece") pa279 (PySem.FuncBody.stmts bo279) sc279 (3 : Nat) (@List.nil (PySem.Str × Nat)) PySem.Value.none PySem.Value.none PySem.Value.none (PySem.Value.str (so "perlcore.interp") (435 : Nat)) none (PySem.Value.ref (278 : Nat)) PySem.Value.none (0 : Nat))) (List.toArray []))
noncomputable def qo_332 (P : Params) : Obj := (PySem.Obj.mk (PySem.Value.type "tuple") none (PySem.Data.seq (List.toArray []) (0 : Nat)) (List.toArray []))
noncomputable def qo_333 (P : Params) : Obj := (PySem.Obj.mk PySem.Value.none none (PySem.Data.fields (List.toArray [])) (List.toArray []))
noncomputable def qo_334 (P : Params) : Obj := (PySem.Obj.mk (PySem.Value.type "tuple") none (PySem.Data.seq (List.toArray [(PySem.Value.str (so "text") (611 : Nat)), (PySem.Value.str (so "is_pattern") (612 : Nat)), (PySem.Value.str (so "stack") (613 : Nat)), (PySem.Value.str (so "at") (614 : Nat)), (PySem.Value.str (so "follower") (615 : Nat))]) (0 : Nat)) (List.toArray []))
noncomputable def qo_335 (P : Params) : Obj := (PySem.Obj.mk (PySem.Value.type "tuple") none (PySem.Data.seq (List.toArray []) (0 : Nat)) (List.toArray []))
noncomputable def qo_336 (P : Params) : Obj := (PySem.Obj.mk PySem.Value.none none (PySem.Data.func (PySem.FuncData.mk (so "parts_of") (so "parts_of") pa286 (PySem.FuncBody.stmts bo286) sc286 (0 : Nat) (@List.nil (PySem.Str × Nat)) PySem.Value.none PySem.Value.none PySem.Value.none PySem.Value.none none PySem.Value.none PySem.Value.none (0 : Nat))) (List.toArray []))
noncomputable def qo_337 (P : Params) : Obj := (PySem.Obj.mk (PySem.Value.type "code") none (PySem.Data.fields (List.toArray [(PySem.Value.str (so "parts_of") (608 : Nat)), (PySem.Value.str (so "parts_of") (609 : Nat)), (PySem.Value.str (so "/claim/cut.py") (610 : Nat)), (PySem.Value.int (314 : Int) (0 : Nat)), (PySem.Value.int (2 : Int) (0 : Nat)), (PySem.Value.int (0 : Int) (0 : Nat)), (PySem.Value.int (0 : Int) (0 : Nat)), (PySem.Value.int (3 : Int) (0 : Nat)), (PySem.Value.ref (280 : Nat)), (PySem.Value.bool Bool.true), (PySem.Value.int (181 : Int) (0 : Nat)), (PySem.Value.ref (281 : Nat)), PySem.Value.none, (PySem.Value.ref (282 : Nat)), (PySem.Value.ref (283 : Nat)), (PySem.Value.ref (284 : Nat)), (PySem.Value.int (616 : Int) (0 : Nat)), (PySem.Value.int (314 : Int) (0 : Nat)), (PySem.Value.str (so "/claim/cut.py") (617 : Nat))])) (List.toArray []))
noncomputable def qo_338 (P : Params) : Obj := (PySem.Obj.mk (PySem.Value.type "function") none (PySem.Data.func (PySem.FuncData.mk (so "parts_of") (so "parts_of") pa286 (PySem.FuncBody.stmts bo286) sc286 (3 : Nat) (@List.nil (PySem.Str × Nat)) PySem.Value.none PySem.Value.none PySem.Value.none (PySem.Value.str (so "perlcore.interp") (435 : Nat)) none (PySem.Value.ref (285 : Nat)) PySem.Value.none (0 : Nat))) (List.toArray []))
noncomputable def qo_339 (P : Params) : Obj := (PySem.Obj.mk (PySem.Value.type "tuple") none (PySem.Data.seq (List.toArray []) (0 : Nat)) (List.toArray []))
noncomputable def qo_340 (P : Params) : Obj := (PySem.Obj.mk PySem.Value.none none (PySem.Data.fields (List.toArray [])) (List.toArray []))
noncomputable def qo_341 (P : Params) : Obj := (PySem.Obj.mk (PySem.Value.type "tuple") none (PySem.Data.seq (List.toArray [(PySem.Value.str (so "text") (622 : Nat)), (PySem.Value.str (so "out") (623 : Nat)), (PySem.Value.str (so "part") (624 : Nat))]) (0 : Nat)) (List.toArray []))
noncomputable def qo_342 (P : Params) : Obj := (PySem.Obj.mk (PySem.Value.type "tuple") none (PySem.Data.seq (List.toArray []) (0 : Nat)) (List.toArray []))
noncomputable def qo_343 (P : Params) : Obj := (PySem.Obj.mk PySem.Value.none none (PySem.Data.func (PySem.FuncData.mk (so "plain_qq") (so "plain_qq") pa293 (PySem.FuncBody.stmts bo293) sc293 (0 : Nat) (@List.nil (PySem.Str × Nat)) PySem.Value.none PySem.Value.none PySem.Value.none PySem.Value.none none PySem.Value.none PySem.Value.none (0 : Nat))) (List.toArray []))
noncomputable def qo_344 (P : Params) : Obj := (PySem.Obj.mk (PySem.Value.type "code") none (PySem.Data.fields (List.toArray [(PySem.Value.str (so "plain_qq") (619 : Nat)), (PySem.Value.str (so "plain_qq") (620 : Nat)), (PySem.Value.str (so "/claim/cut.py") (621 : Nat)), (PySem.Value.int (326 : Int) (0 : Nat)), (PySem.Value.int (1 : Int) (0 : Nat)), (PySem.Value.int (0 : Int) (0 : Nat)), (PySem.Value.int (0 : Int) (0 : Nat)), (PySem.Value.int (3 : Int) (0 : Nat)), (PySem.Value.ref (287 : Nat)), (PySem.Value.bool Bool.true), (PySem.Value.int (181 : Int) (0 : Nat)), (PySem.Value.ref (288 : Nat)), PySem.Value.none, (PySem.Value.ref (289 : Nat)), (PySem.Value.ref (290 : Nat)), (PySem.Value.ref (291 : Nat)), (PySem.Value.int (625 : Int) (0 : Nat)), (PySem.Value.int (326 : Int) (0 : Nat)), (PySem.Value.str (so "/claim/cut.py") (626 : Nat))])) (List.toArray []))
noncomputable def qo_345 (P : Params) : Obj := (PySem.Obj.mk (PySem.Value.type "function") none (PySem.Data.func (PySem.FuncData.mk (so "plain_qq") (so "plain_qq") pa293 (PySem.FuncBody.stmts bo293) sc293 (3 : Nat) (@List.nil (PySem.Str × Nat)) PySem.Value.none PySem.Value.none PySem.Value.none (PySem.Value.str (so "perlcore.interp") (435 : Nat)) none (PySem.Value.ref (292 : Nat)) PySem.Value.none (0 : Nat))) (List.toArray []))
noncomputable def qo_346 (P : Params) : Obj := (PySem.Obj.mk (PySem.Value.type "tuple") none (PySem.Data.seq (List.toArray []) (0 : Nat)) (List.toArray []))
noncomputable def qo_347 (P : Params) : Obj := (PySem.Obj.mk PySem.Value.none none (PySem.Data.fields (List.toArray [])) (List.toArray []))
noncomputable def qo_348 (P : Params) : Obj := (PySem.Obj.mk (PySem.Value.type "tuple") none (PySem.Data.seq (List.toArray []) (0 : Nat)) (List.toArray []))
noncomputable def qo_349 (P : Params) : Obj := (PySem.Obj.mk (PySem.Value.type "tuple") none (PySem.Data.seq (List.toArray []) (0 : Nat)) (List.toArray []))
noncomputable def qo_350 (P : Params) : Obj := (PySem.Obj.mk PySem.Value.none none (PySem.Data.func (PySem.FuncData.mk (so "_law_ends") (so "_law_ends") pa300 (PySem.FuncBody.stmts bo300) sc300 (0 : Nat) (@List.nil (PySem.Str × Nat)) PySem.Value.none PySem.Value.none PySem.Value.none PySem.Value.none none PySem.Value.none PySem.Value.none (0 : Nat))) (List.toArray []))
noncomputable def qo_351 (P : Params) : Obj := (PySem.Obj.mk (PySem.Value.type "code") none (PySem.Data.fields (List.toArray [(PySem.Value.str (so "_law_ends") (632 : Nat)), (PySem.Value.str (so "_law_ends") (633 : Nat)), (PySem.Value.str (so "/claim/cut.py") (634 : Nat)), (PySem.Value.int (335 : Int) (0 : Nat)), (PySem.Value.int (0 : Int) (0 : Nat)), (PySem.Value.int (0 : Int) (0 : Nat)), (PySem.Value.int (0 : Int) (0 : Nat)), (PySem.Value.int (3 : Int) (0 : Nat)), (PySem.Value.ref (294 : Nat)), (PySem.Value.bool Bool.true), (PySem.Value.int (181 : Int) (0 : Nat)), (PySem.Value.ref (295 : Nat)), PySem.Value.none, (PySem.Value.ref (296 : Nat)), (PySem.Value.ref (297 : Nat)), (PySem.Value.ref (298 : Nat)), (PySem.Value.int (635 : Int) (0 : Nat)), (PySem.Value.int (335 : Int) (0 : Nat)), (PySem.Value.str (so "/claim/cut.py") (636 : Nat))])) (List.toArray []))
noncomputable def qo_352 (P : Params) : Obj := (PySem.Obj.mk (PySem.Value.type "function") none (PySem.Data.func (PySem.FuncData.mk (so "_law_ends") (so "_law_ends") pa300 (PySem.FuncBody.stmts bo300) sc300 (3 : Nat) (@List.nil (PySem.Str × Nat)) PySem.Value.none PySem.Value.none PySem.Value.none (PySem.Value.str (so "law_nz0190_01") (628 : Nat)) none (PySem.Value.ref (299 : Nat)) PySem.Value.none (0 : Nat))) (List.toArray []))
noncomputable def qo_353 (P : Params) : Obj := (PySem.Obj.mk (PySem.Value.type "dict") none (PySem.Data.dict (List.toArray [(PySem.DictEntry.mk (kh P (so "\n")) (PySem.Value.str (so "\n") (638 : Nat)) (PySem.Value.str (so "\\n") (639 : Nat))), (PySem.DictEntry.mk (kh P (so "\t")) (PySem.Value.str (so "\t") (640 : Nat)) (PySem.Value.str (so "\\t") (641 : Nat))), (PySem.DictEntry.mk (kh P (so "\x1b")) (PySem.Value.str (so "\x1b") (642 : Nat)) (PySem.Value.str (so "\\e") (643 : Nat))), (PySem.DictEntry.mk (kh P (so "\\")) (PySem.Value.str (so "\\") (644 : Nat)) (PySem.Value.str (so "\\\\") (645 : Nat))), (PySem.DictEntry.mk (kh P (so "$")) (PySem.Value.str (so "$") (646 : Nat)) (PySem.Value.str (so "\\$") (647 : Nat))), (PySem.DictEntry.mk (kh P (so "@")) (PySem.Value.str (so "@") (648 : Nat)) (PySem.Value.str (so "\\@") (649 : Nat)))]) (6 : Nat)) (List.toArray []))
noncomputable def qo_354 (P : Params) : Obj := (PySem.Obj.mk (PySem.Value.type "tuple") none (PySem.Data.seq (List.toArray []) (0 : Nat)) (List.toArray []))
noncomputable def qo_355 (P : Params) : Obj := (PySem.Obj.mk PySem.Value.none none (PySem.Data.fields (List.toArray [])) (List.toArray []))
noncomputable def qo_356 (P : Params) : Obj := (PySem.Obj.mk (PySem.Value.type "tuple") none (PySem.Data.seq (List.toArray [(PySem.Value.str (so "tape") (660 : Nat)), (PySem.Value.str (so "n") (661 : Nat)), (PySem.Value.str (so "at") (662 : Nat))]) (0 : Nat)) (List.toArray []))
noncomputable def qo_357 (P : Params) : Obj := (PySem.Obj.mk (PySem.Value.type "tuple") none (PySem.Data.seq (List.toArray []) (0 : Nat)) (List.toArray []))
noncomputable def qo_358 (P : Params) : Obj := (PySem.Obj.mk PySem.Value.none none (PySem.Data.func (PySem.FuncData.mk (so "_law_take") (so "_law_take") pa308 (PySem.FuncBody.stmts bo308) sc308 (0 : Nat) (@List.nil (PySem.Str × Nat)) PySem.Value.none PySem.Value.none PySem.Value.none PySem.Value.none none PySem.Value.none PySem.Value.none (0 : Nat))) (List.toArray []))
noncomputable def qo_359 (P : Params) : Obj := (PySem.Obj.mk (PySem.Value.type "code") none (PySem.Data.fields (List.toArray [(PySem.Value.str (so "_law_take") (657 : Nat)), (PySem.Value.str (so "_law_take") (658 : Nat)), (PySem.Value.str (so "/claim/cut.py") (659 : Nat)), (PySem.Value.int (338 : Int) (0 : Nat)), (PySem.Value.int (2 : Int) (0 : Nat)), (PySem.Value.int (0 : Int) (0 : Nat)), (PySem.Value.int (0 : Int) (0 : Nat)), (PySem.Value.int (3 : Int) (0 : Nat)), (PySem.Value.ref (302 : Nat)), (PySem.Value.bool Bool.true), (PySem.Value.int (181 : Int) (0 : Nat)), (PySem.Value.ref (303 : Nat)), PySem.Value.none, (PySem.Value.ref (304 : Nat)), (PySem.Value.ref (305 : Nat)), (PySem.Value.ref (306 : Nat)), (PySem.Value.int (663 : Int) (0 : Nat)), (PySem.Value.int (338 : Int) (0 : Nat)), (PySem.Value.str (so "/claim/cut.py") (664 : Nat))])) (List.toArray []))
noncomputable def qo_360 (P : Params) : Obj := (PySem.Obj.mk (PySem.Value.type "function") none (PySem.Data.func (PySem.FuncData.mk (so "_law_take") (so "_law_take") pa308 (PySem.FuncBody.stmts bo308) sc308 (3 : Nat) (@List.nil (PySem.Str × Nat)) PySem.Value.none PySem.Value.none PySem.Value.none (PySem.Value.str (so "law_nz0190_01") (628 : Nat)) none (PySem.Value.ref (307 : Nat)) PySem.Value.none (0 : Nat))) (List.toArray []))
noncomputable def qo_361 (P : Params) : Obj := (PySem.Obj.mk (PySem.Value.type "tuple") none (PySem.Data.seq (List.toArray []) (0 : Nat)) (List.toArray []))
noncomputable def qo_362 (P : Params) : Obj := (PySem.Obj.mk PySem.Value.none none (PySem.Data.fields (List.toArray [])) (List.toArray []))
noncomputable def qo_363 (P : Params) : Obj := (PySem.Obj.mk (PySem.Value.type "tuple") none (PySem.Data.seq (List.toArray [(PySem.Value.str (so "number") (669 : Nat)), (PySem.Value.str (so "base") (670 : Nat)), (PySem.Value.str (so "text") (671 : Nat))]) (0 : Nat)) (List.toArray []))
noncomputable def qo_364 (P : Params) : Obj := (PySem.Obj.mk (PySem.Value.type "tuple") none (PySem.Data.seq (List.toArray []) (0 : Nat)) (List.toArray []))
noncomputable def qo_365 (P : Params) : Obj := (PySem.Obj.mk PySem.Value.none none (PySem.Data.func (PySem.FuncData.mk (so "_law_based") (so "_law_based") pa315 (PySem.FuncBody.stmts bo315) sc315 (0 : Nat) (@List.nil (PySem.Str × Nat)) PySem.Value.none PySem.Value.none PySem.Value.none PySem.Value.none none PySem.Value.none PySem.Value.none (0 : Nat))) (List.toArray []))
noncomputable def qo_366 (P : Params) : Obj := (PySem.Obj.mk (PySem.Value.type "code") none (PySem.Data.fields (List.toArray [(PySem.Value.str (so "_law_based") (666 : Nat)), (PySem.Value.str (so "_law_based") (667 : Nat)), (PySem.Value.str (so "/claim/cut.py") (668 : Nat)), (PySem.Value.int (344 : Int) (0 : Nat)), (PySem.Value.int (2 : Int) (0 : Nat)), (PySem.Value.int (0 : Int) (0 : Nat)), (PySem.Value.int (0 : Int) (0 : Nat)), (PySem.Value.int (3 : Int) (0 : Nat)), (PySem.Value.ref (309 : Nat)), (PySem.Value.bool Bool.true), (PySem.Value.int (181 : Int) (0 : Nat)), (PySem.Value.ref (310 : Nat)), PySem.Value.none, (PySem.Value.ref (311 : Nat)), (PySem.Value.ref (312 : Nat)), (PySem.Value.ref (313 : Nat)), (PySem.Value.int (672 : Int) (0 : Nat)), (PySem.Value.int (344 : Int) (0 : Nat)), (PySem.Value.str (so "/claim/cut.py") (673 : Nat))])) (List.toArray []))
noncomputable def qo_367 (P : Params) : Obj := (PySem.Obj.mk (PySem.Value.type "function") none (PySem.Data.func (PySem.FuncData.mk (so "_law_based") (so "_law_based") pa315 (PySem.FuncBody.stmts bo315) sc315 (3 : Nat) (@List.nil (PySem.Str × Nat)) PySem.Value.none PySem.Value.none PySem.Value.none (PySem.Value.str (so "law_nz0190_01") (628 : Nat)) none (PySem.Value.ref (314 : Nat)) PySem.Value.none (0 : Nat))) (List.toArray []))
noncomputable def qo_368 (P : Params) : Obj := (PySem.Obj.mk (PySem.Value.type "tuple") none (PySem.Data.seq (List.toArray []) (0 : Nat)) (List.toArray []))
noncomputable def qo_369 (P : Params) : Obj := (PySem.Obj.mk PySem.Value.none none (PySem.Data.fields (List.toArray [])) (List.toArray []))
noncomputable def qo_370 (P : Params) : Obj := (PySem.Obj.mk (PySem.Value.type "tuple") none (PySem.Data.seq (List.toArray [(PySem.Value.str (so "tape") (678 : Nat)), (PySem.Value.str (so "text") (679 : Nat)), (PySem.Value.str (so "opening") (680 : Nat)), (PySem.Value.str (so "raw") (681 : Nat)), (PySem.Value.str (so "sign") (682 : Nat))]) (0 : Nat)) (List.toArray []))
noncomputable def qo_371 (P : Params) : Obj := (PySem.Obj.mk (PySem.Value.type "tuple") none (PySem.Data.seq (List.toArray []) (0 : Nat)) (List.toArray []))
noncomputable def qo_372 (P : Params) : Obj := (PySem.Obj.mk PySem.Value.none none (PySem.Data.func (PySem.FuncData.mk (so "_law_in_q") (so "_law_in_q") pa322 (PySem.FuncBody.stmts bo322) sc322 (0 : Nat) (@List.nil (PySem.Str × Nat)) PySem.Value.none PySem.Value.none PySem.Value.none PySem.Value.none none PySem.Value.none PySem.Value.none (0 : Nat))) (List.toArray []))
noncomputable def qo_373 (P : Params) : Obj := (PySem.Obj.mk (PySem.Value.type "code") none (PySem.Data.fields (List.toArray [(PySem.Value.str (so "_law_in_q") (675 : Nat)), (PySem.Value.str (so "_law_in_q") (676 : Nat)), (PySem.Value.str (so "/claim/cut.py") (677 : Nat)), (PySem.Value.int (350 : Int) (0 : Nat)), (PySem.Value.int (3 : Int) (0 : Nat)), (PySem.Value.int (0 : Int) (0 : Nat)), (PySem.Value.int (0 : Int) (0 : Nat)), (PySem.Value.int (3 : Int) (0 : Nat)), (PySem.Value.ref (316 : Nat)), (PySem.Value.bool Bool.true), (PySem.Value.int (181 : Int) (0 : Nat)), (PySem.Value.ref (317 : Nat)), PySem.Value.none, (PySem.Value.ref (318 : Nat)), (PySem.Value.ref (319 : Nat)), (PySem.Value.ref (320 : Nat)), (PySem.Value.int (683 : Int) (0 : Nat)), (PySem.Value.int (350 : Int) (0 : Nat)), (PySem.Value.str (so "/claim/cut.py") (684 : Nat))])) (List.toArray []))
noncomputable def qo_374 (P : Params) : Obj := (PySem.Obj.mk (PySem.Value.type "function") none (PySem.Data.func (PySem.FuncData.mk (so "_law_in_q") (so "_law_in_q") pa322 (PySem.FuncBody.stmts bo322) sc322 (3 : Nat) (@List.nil (PySem.Str × Nat)) PySem.Value.none PySem.Value.none PySem.Value.none (PySem.Value.str (so "law_nz0190_01") (628 : Nat)) none (PySem.Value.ref (321 : Nat)) PySem.Value.none (0 : Nat))) (List.toArray []))
noncomputable def qo_375 (P : Params) : Obj := (PySem.Obj.mk (PySem.Value.type "tuple") none (PySem.Data.seq (List.toArray []) (0 : Nat)) (List.toArray []))
noncomputable def qo_376 (P : Params) : Obj := (PySem.Obj.mk PySem.Value.none none (PySem.Data.fields (List.toArray [])) (List.toArray []))
noncomputable def qo_377 (P : Params) : Obj := (PySem.Obj.mk (PySem.Value.type "tuple") none (PySem.Data.seq (List.toArray [(PySem.Value.str (so "tape") (689 : Nat)), (PySem.Value.str (so "text") (690 : Nat)), (PySem.Value.str (so "opening") (691 : Nat)), (PySem.Value.str (so "raw") (692 : Nat)), (PySem.Value.str (so "sign") (693 : Nat)), (PySem.Value.str (so "way") (694 : Nat)), (PySem.Value.str (so "code") (695 : Nat))]) (0 : Nat)) (List.toArray []))
noncomputable def qo_378 (P : Params) : Obj := (PySem.Obj.mk (PySem.Value.type "tuple") none (PySem.Data.seq (List.toArray []) (0 : Nat)) (List.toArray []))
noncomputable def qo_379 (P : Params) : Obj := (PySem.Obj.mk PySem.Value.none none (PySem.Data.func (PySem.FuncData.mk (so "_law_in_qq") (so "_law_in_qq") pa329 (PySem.FuncBody.stmts bo329) sc329 (0 : Nat) (@List.nil (PySem.Str × Nat)) PySem.Value.none PySem.Value.none PySem.Value.none PySem.Value.none none PySem.Value.none PySem.Value.none (0 : Nat))) (List.toArray []))
noncomputable def qo_380 (P : Params) : Obj := (PySem.Obj.mk (PySem.Value.type "code") none (PySem.Data.fields (List.toArray [(PySem.Value.str (so "_law_in_qq") (686 : Nat)), (PySem.Value.str (so "_law_in_qq") (687 : Nat)), (PySem.Value.str (so "/claim/cut.py") (688 : Nat)), (PySem.Value.int (357 : Int) (0 : Nat)), (PySem.Value.int (3 : Int) (0 : Nat)), (PySem.Value.int (0 : Int) (0 : Nat)), (PySem.Value.int (0 : Int) (0 : Nat)), (PySem.Value.int (3 : Int) (0 : Nat)), (PySem.Value.ref (323 : Nat)), (PySem.Value.bool Bool.true), (PySem.Value.int (181 : Int) (0 : Nat)), (PySem.Value.ref (324 : Nat)), PySem.Value.none, (PySem.Value.ref (325 : Nat)), (PySem.Value.ref (326 : Nat)), (PySem.Value.ref (327 : Nat)), (PySem.Value.int (696 : Int) (0 : Nat)), (PySem.Value.int (357 : Int) (0 : Nat)), (PySem.Value.str (so "/claim/cut.py") (697 : Nat))])) (List.toArray []))
noncomputable def qo_381 (P : Params) : Obj := (PySem.Obj.mk (PySem.Value.type "function") none (PySem.Data.func (PySem.FuncData.mk (so "_law_in_qq") (so "_law_in_qq") pa329 (PySem.FuncBody.stmts bo329) sc329 (3 : Nat) (@List.nil (PySem.Str × Nat)) PySem.Value.none PySem.Value.none PySem.Value.none (PySem.Value.str (so "law_nz0190_01") (628 : Nat)) none (PySem.Value.ref (328 : Nat)) PySem.Value.none (0 : Nat))) (List.toArray []))
noncomputable def qo_384 (P : Params) : Obj := (PySem.Obj.mk (PySem.Value.type "dict") none (PySem.Data.dict (List.toArray ((PySem.DictEntry.mk (kh P (so "__name__")) (PySem.Value.str (so "__name__") (165 : Nat)) (PySem.Value.str (so "law_nz0190_01") (628 : Nat))) :: (PySem.DictEntry.mk (kh P (so "__doc__")) (PySem.Value.str (so "__doc__") (166 : Nat)) PySem.Value.none) :: (PySem.DictEntry.mk (kh P (so "__package__")) (PySem.Value.str (so "__package__") (167 : Nat)) PySem.Value.none) :: (PySem.DictEntry.mk (kh P (so "__loader__")) (PySem.Value.str (so "__loader__") (168 : Nat)) (PySem.Value.builtin "__main__.__loader__#opaque")) :: (PySem.DictEntry.mk (kh P (so "__spec__")) (PySem.Value.str (so "__spec__") (169 : Nat)) PySem.Value.none) :: (PySem.DictEntry.mk (kh P (so "__annotations__")) (PySem.Value.str (so "__annotations__") (170 : Nat)) (PySem.Value.ref (6 : Nat))) :: (PySem.DictEntry.mk (kh P (so "__builtins__")) (PySem.Value.str (so "__builtins__") (171 : Nat)) (PySem.Value.ref (4 : Nat))) :: (PySem.DictEntry.mk (kh P (so "__file__")) (PySem.Value.str (so "__file__") (173 : Nat)) (PySem.Value.str (so "/claim/cut.py") (172 : Nat))) :: (PySem.DictEntry.mk (kh P (so "__cached__")) (PySem.Value.str (so "__cached__") (174 : Nat)) PySem.Value.none) :: (PySem.DictEntry.mk (kh P (so "PerlError")) (PySem.Value.str (so "PerlError") (217 : Nat)) (PySem.Value.ref (31 : Nat))) :: (PySem.DictEntry.mk (kh P (so "SyntaxDie")) (PySem.Value.str (so "SyntaxDie") (243 : Nat)) (PySem.Value.ref (51 : Nat))) :: (PySem.DictEntry.mk (kh P (so "CLOSERS")) (PySem.Value.str (so "CLOSERS") (258 : Nat)) (PySem.Value.ref (54 : Nat))) :: (PySem.DictEntry.mk (kh P (so "SHORT_ESCAPES")) (PySem.Value.str (so "SHORT_ESCAPES") (280 : Nat)) (PySem.Value.ref (55 : Nat))) :: (PySem.DictEntry.mk (kh P (so "CODE_FIGURES")) (PySem.Value.str (so "CODE_FIGURES") (282 : Nat)) (PySem.Value.str (so "0123456789abcdef") (281 : Nat))) :: (PySem.DictEntry.mk (kh P (so "TOP_CODE")) (PySem.Value.str (so "TOP_CODE") (284 : Nat)) (PySem.Value.int (1114111 : Int) (283 : Nat))) :: (PySem.DictEntry.mk (kh P (so "closer_of")) (PySem.Value.str (so "closer_of") (291 : Nat)) (PySem.Value.ref (62 : Nat))) :: (PySem.DictEntry.mk (kh P (so "line_of_place")) (PySem.Value.str (so "line_of_place") (299 : Nat)) (PySem.Value.ref (69 : Nat))) :: (PySem.DictEntry.mk (kh P (so "delimited")) (PySem.Value.str (so "delimited") (312 : Nat)) (PySem.Value.ref (76 : Nat))) :: (PySem.DictEntry.mk (kh P (so "unguarded")) (PySem.Value.str (so "unguarded") (325 : Nat)) (PySem.Value.ref (83 : Nat))) :: (PySem.DictEntry.mk (kh P (so "read_q")) (PySem.Value.str (so "read_q") (333 : Nat)) (PySem.Value.ref (90 : Nat))) :: (PySem.DictEntry.mk (kh P (so "digits_value")) (PySem.Value.str (so "digits_value") (346 : Nat)) (PySem.Value.ref (97 : Nat))) :: (PySem.DictEntry.mk (kh P (so "coded_sign")) (PySem.Value.str (so "coded_sign") (353 : Nat)) (PySem.Value.ref (104 : Nat))) :: (PySem.DictEntry.mk (kh P (so "braced_code")) (PySem.Value.str (so "braced_code") (365 : Nat)) (PySem.Value.ref (111 : Nat))) :: (PySem.DictEntry.mk (kh P (so "escape_at")) (PySem.Value.str (so "escape_at") (376 : Nat)) (PySem.Value.ref (118 : Nat))) :: (PySem.DictEntry.mk (kh P (so "great_letter")) (PySem.Value.str (so "great_letter") (383 : Nat)) (PySem.Value.ref (125 : Nat))) :: (PySem.DictEntry.mk (kh P (so "small_letter")) (PySem.Value.str (so "small_letter") (390 : Nat)) (PySem.Value.ref (132 : Nat))) :: (PySem.DictEntry.mk (kh P (so "is_plain_word_sign")) (PySem.Value.str (so "is_plain_word_sign") (397 : Nat)) (PySem.Value.ref (139 : Nat))) :: (PySem.DictEntry.mk (kh P (so "cased_text")) (PySem.Value.str (so "cased_text") (407 : Nat)) (PySem.Value.ref (146 : Nat))) :: (PySem.DictEntry.mk (kh P (so "here_end")) (PySem.Value.str (so "here_end") (419 : Nat)) (PySem.Value.ref (153 : Nat))) :: (PySem.DictEntry.mk (kh P (so "here_body")) (PySem.Value.str (so "here_body") (434 : Nat)) (PySem.Value.ref (160 : Nat))) :: (PySem.DictEntry.mk (kh P (so "SHORT_CASES")) (PySem.Value.str (so "SHORT_CASES") (438 : Nat)) (PySem.Value.str (so "ul") (437 : Nat))) :: (PySem.DictEntry.mk (kh P (so "PUNCTUATION")) (PySem.Value.str (so "PUNCTUATION") (440 : Nat)) (PySem.Value.str (so "&,;!@/\"") (439 : Nat))) :: (PySem.DictEntry.mk (kh P (so "is_name_start")) (PySem.Value.str (so "is_name_start") (447 : Nat)) (PySem.Value.ref (167 : Nat))) :: (PySem.DictEntry.mk (kh P (so "variable_name_end")) (PySem.Value.str (so "variable_name_end") (456 : Nat)) (PySem.Value.ref (174 : Nat))) :: (PySem.DictEntry.mk (kh P (so "quote_skip")) (PySem.Value.str (so "quote_skip") (465 : Nat)) (PySem.Value.ref (181 : Nat))) :: (PySem.DictEntry.mk (kh P (so "subscript_end")) (PySem.Value.str (so "subscript_end") (478 : Nat)) (PySem.Value.ref (188 : Nat))) :: (PySem.DictEntry.mk (kh P (so "digits_only")) (PySem.Value.str (so "digits_only") (486 : Nat)) (PySem.Value.ref (195 : Nat))) :: (PySem.DictEntry.mk (kh P (so "is_pattern_part")) (PySem.Value.str (so "is_pattern_part") (497 : Nat)) (PySem.Value.ref (202 : Nat))) :: (PySem.DictEntry.mk (kh P (so "one_subscript")) (PySem.Value.str (so "one_subscript") (507 : Nat)) (PySem.Value.ref (209 : Nat))) :: (PySem.DictEntry.mk (kh P (so "all_subscripts")) (PySem.Value.str (so "all_subscripts") (519 : Nat)) (PySem.Value.ref (216 : Nat))) :: (PySem.DictEntry.mk (kh P (so "base_end")) (PySem.Value.str (so "base_end") (529 : Nat)) (PySem.Value.ref (223 : Nat))) :: (PySem.DictEntry.mk (kh P (so "scalar_end")) (PySem.Value.str (so "scalar_end") (540 : Nat)) (PySem.Value.ref (230 : Nat))) :: (PySem.DictEntry.mk (kh P (so "array_end")) (PySem.Value.str (so "array_end") (550 : Nat)) (PySem.Value.ref (237 : Nat))) :: (PySem.DictEntry.mk (kh P (so "add_part")) (PySem.Value.str (so "add_part") (559 : Nat)) (PySem.Value.ref (244 : Nat))) :: (PySem.DictEntry.mk (kh P (so "close_case")) (PySem.Value.str (so "close_case") (568 : Nat)) (PySem.Value.ref (251 : Nat))) :: (PySem.DictEntry.mk (kh P (so "end_case")) (PySem.Value.str (so "end_case") (575 : Nat)) (PySem.Value.ref (258 : Nat))) :: (PySem.DictEntry.mk (kh P (so "begin_case")) (PySem.Value.str (so "begin_case") (583 : Nat)) (PySem.Value.ref (265 : Nat))) :: (PySem.DictEntry.mk (kh P (so "take_case")) (PySem.Value.str (so "take_case") (594 : Nat)) (PySem.Value.ref (272 : Nat))) :: (PySem.DictEntry.mk (kh P (so "take_piece")) (PySem.Value.str (so "take_piece") (607 : Nat)) (PySem.Value.ref (279 : Nat))) :: (PySem.DictEntry.mk (kh P (so "parts_of")) (PySem.Value.str (so "parts_of") (618 : Nat)) (PySem.Value.ref (286 : Nat))) :: (PySem.DictEntry.mk (kh P (so "plain_qq")) (PySem.Value.str (so "plain_qq") (627 : Nat)) (PySem.Value.ref (293 : Nat))) :: (PySem.DictEntry.mk (kh P (so "_law_signs")) (PySem.Value.str (so "_law_signs") (631 : Nat)) (PySem.Value.str (so "aZ_ (){}[]<>'\"/|\\\\$@\n\t\x00\x1b\x7féā☺09~n") (630 : Nat))) :: (PySem.DictEntry.mk (kh P (so "_law_ends")) (PySem.Value.str (so "_law_ends") (637 : Nat)) (PySem.Value.ref (300 : Nat))) :: (PySem.DictEntry.mk (kh P (so "_law_named")) (PySem.Value.str (so "_law_named") (656 : Nat)) (PySem.Value.ref (301 : Nat))) :: (PySem.DictEntry.mk (kh P (so "_law_take")) (PySem.Value.str (so "_law_take") (665 : Nat)) (PySem.Value.ref (308 : Nat))) :: (PySem.DictEntry.mk (kh P (so "_law_based")) (PySem.Value.str (so "_law_based") (674 : Nat)) (PySem.Value.ref (315 : Nat))) :: (PySem.DictEntry.mk (kh P (so "_law_in_q")) (PySem.Value.str (so "_law_in_q") (685 : Nat)) (PySem.Value.ref (322 : Nat))) :: (PySem.DictEntry.mk (kh P (so "_law_in_qq")) (PySem.Value.str (so "_law_in_qq") (698 : Nat)) (PySem.Value.ref (329 : Nat))) :: (PySem.DictEntry.mk (kh P (so "law")) (PySem.Value.str (so "law") (704 : Nat)) (PySem.Value.ref (334 : Nat))) :: [])) (59 : Nat)) (List.toArray []))
noncomputable def qo_385 (P : Params) : Obj := (PySem.Obj.mk PySem.Value.none none (PySem.Data.fields (List.toArray ((PySem.Value.int (2 : Int) (0 : Nat)) :: (PySem.Value.int (0 : Int) (0 : Nat)) :: (PySem.Value.ref (20 : Nat)) :: (PySem.Value.int (7 : Int) (0 : Nat)) :: (PySem.Value.int (0 : Int) (0 : Nat)) :: (PySem.Value.ref (40 : Nat)) :: (PySem.Value.int (17 : Int) (0 : Nat)) :: (PySem.Value.int (0 : Int) (0 : Nat)) :: (PySem.Value.ref (61 : Nat)) :: (PySem.Value.int (19 : Int) (0 : Nat)) :: (PySem.Value.int (0 : Int) (0 : Nat)) :: (PySem.Value.ref (68 : Nat)) :: (PySem.Value.int (21 : Int) (0 : Nat)) :: (PySem.Value.int (0 : Int) (0 : Nat)) :: (PySem.Value.ref (75 : Nat)) :: (PySem.Value.int (39 : Int) (0 : Nat)) :: (PySem.Value.int (0 : Int) (0 : Nat)) :: (PySem.Value.ref (82 : Nat)) :: (PySem.Value.int (55 : Int) (0 : Nat)) :: (PySem.Value.int (0 : Int) (0 : Nat)) :: (PySem.Value.ref (89 : Nat)) :: (PySem.Value.int (57 : Int) (0 : Nat)) :: (PySem.Value.int (0 : Int) (0 : Nat)) :: (PySem.Value.ref (96 : Nat)) :: (PySem.Value.int (67 : Int) (0 : Nat)) :: (PySem.Value.int (0 : Int) (0 : Nat)) :: (PySem.Value.ref (103 : Nat)) :: (PySem.Value.int (71 : Int) (0 : Nat)) :: (PySem.Value.int (0 : Int) (0 : Nat)) :: (PySem.Value.ref (110 : Nat)) :: (PySem.Value.int (77 : Int) (0 : Nat)) :: (PySem.Value.int (0 : Int) (0 : Nat)) :: (PySem.Value.ref (117 : Nat)) :: (PySem.Value.int (98 : Int) (0 : Nat)) :: (PySem.Value.int (0 : Int) (0 : Nat)) :: (PySem.Value.ref (124 : Nat)) :: (PySem.Value.int (102 : Int) (0 : Nat)) :: (PySem.Value.int (0 : Int) (0 : Nat)) :: (PySem.Value.ref (131 : Nat)) :: (PySem.Value.int (106 : Int) (0 : Nat)) :: (PySem.Value.int (0 : Int) (0 : Nat)) :: (PySem.Value.ref (138 : Nat)) :: (PySem.Value.int (108 : Int) (0 : Nat)) :: (PySem.Value.int (0 : Int) (0 : Nat)) :: (PySem.Value.ref (145 : Nat)) :: (PySem.Value.int (124 : Int) (0 : Nat)) :: (PySem.Value.int (0 : Int) (0 : Nat)) :: (PySem.Value.ref (152 : Nat)) :: (PySem.Value.int (132 : Int) (0 : Nat)) :: (PySem.Value.int (0 : Int) (0 : Nat)) :: (PySem.Value.ref (159 : Nat)) :: (PySem.Value.int (147 : Int) (0 : Nat)) :: (PySem.Value.int (0 : Int) (0 : Nat)) :: (PySem.Value.ref (166 : Nat)) :: (PySem.Value.int (149 : Int) (0 : Nat)) :: (PySem.Value.int (0 : Int) (0 : Nat)) :: (PySem.Value.ref (173 : Nat)) :: (PySem.Value.int (163 : Int) (0 : Nat)) :: (PySem.Value.int (0 : Int) (0 : Nat)) :: (PySem.Value.ref (180 : Nat)) :: (PySem.Value.int (172 : Int) (0 : Nat)) :: (PySem.Value.int (0 : Int) (0 : Nat)) :: (PySem.Value.ref (187 : Nat)) :: (PySem.Value.int (193 : Int) (0 : Nat)) :: (PySem.Value.int (0 : Int) (0 : Nat)) :: (PySem.Value.ref (194 : Nat)) :: (PySem.Value.int (200 : Int) (0 : Nat)) :: (PySem.Value.int (0 : Int) (0 : Nat)) :: (PySem.Value.ref (201 : Nat)) :: (PySem.Value.int (209 : Int) (0 : Nat)) :: (PySem.Value.int (0 : Int) (0 : Nat)) :: (PySem.Value.ref (208 : Nat)) :: (PySem.Value.int (216 : Int) (0 : Nat)) :: (PySem.Value.int (0 : Int) (0 : Nat)) :: (PySem.Value.ref (215 : Nat)) :: (PySem.Value.int (226 : Int) (0 : Nat)) :: (PySem.Value.int (0 : Int) (0 : Nat)) :: (PySem.Value.ref (222 : Nat)) :: (PySem.Value.int (235 : Int) (0 : Nat)) :: (PySem.Value.int (0 : Int) (0 : Nat)) :: (PySem.Value.ref (229 : Nat)) :: (PySem.Value.int (253 : Int) (0 : Nat)) :: (PySem.Value.int (0 : Int) (0 : Nat)) :: (PySem.Value.ref (236 : Nat)) :: (PySem.Value.int (258 : Int) (0 : Nat)) :: (PySem.Value.int (0 : Int) (0 : Nat)) :: (PySem.Value.ref (243 : Nat)) :: (PySem.Value.int (266 : Int) (0 : Nat)) :: (PySem.Value.int (0 : Int) (0 : Nat)) :: (PySem.Value.ref (250 : Nat)) :: (PySem.Value.int (272 : Int) (0 : Nat)) :: (PySem.Value.int (0 : Int) (0 : Nat)) :: (PySem.Value.ref (257 : Nat)) :: (PySem.Value.int (277 : Int) (0 : Nat)) :: (PySem.Value.int (0 : Int) (0 : Nat)) :: (PySem.Value.ref (264 : Nat)) :: (PySem.Value.int (281 : Int) (0 : Nat)) :: (PySem.Value.int (0 : Int) (0 : Nat)) :: (PySem.Value.ref (271 : Nat)) :: (PySem.Value.int (295 : Int) (0 : Nat)) :: (PySem.Value.int (0 : Int) (0 : Nat)) :: (PySem.Value.ref (278 : Nat)) :: (PySem.Value.int (314 : Int) (0 : Nat)) :: (PySem.Value.int (0 : Int) (0 : Nat)) :: (PySem.Value.ref (285 : Nat)) :: (PySem.Value.int (326 : Int) (0 : Nat)) :: (PySem.Value.int (0 : Int) (0 : Nat)) :: (PySem.Value.ref (292 : Nat)) :: (PySem.Value.int (335 : Int) (0 : Nat)) :: (PySem.Value.int (0 : Int) (0 : Nat)) :: (PySem.Value.ref (299 : Nat)) :: (PySem.Value.int (338 : Int) (0 : Nat)) :: (PySem.Value.int (0 : Int) (0 : Nat)) :: (PySem.Value.ref (307 : Nat)) :: (PySem.Value.int (344 : Int) (0 : Nat)) :: (PySem.Value.int (0 : Int) (0 : Nat)) :: (PySem.Value.ref (314 : Nat)) :: (PySem.Value.int (350 : Int) (0 : Nat)) :: (PySem.Value.int (0 : Int) (0 : Nat)) :: (PySem.Value.ref (321 : Nat)) :: (PySem.Value.int (357 : Int) (0 : Nat)) :: (PySem.Value.int (0 : Int) (0 : Nat)) :: (PySem.Value.ref (328 : Nat)) :: (PySem.Value.int (377 : Int) (0 : Nat)) :: (PySem.Value.int (0 : Int) (0 : Nat)) :: (PySem.Value.ref (333 : Nat)) :: []))) (List.toArray []))
noncomputable def qo_386 (P : Params) : Obj := (PySem.Obj.mk (PySem.Value.type "tuple") none (PySem.Data.seq (List.toArray []) (0 : Nat)) (List.toArray []))
noncomputable def qo_387 (P : Params) : Obj := (PySem.Obj.mk PySem.Value.none none (PySem.Data.fields (List.toArray [])) (List.toArray []))
noncomputable def qo_388 (P : Params) : Obj := (PySem.Obj.mk PySem.Value.none none (PySem.Data.func (PySem.FuncData.mk (so "law") (so "law") pa334 (PySem.FuncBody.stmts bo334) sc334 (0 : Nat) (@List.nil (PySem.Str × Nat)) PySem.Value.none PySem.Value.none PySem.Value.none PySem.Value.none none PySem.Value.none PySem.Value.none (0 : Nat))) (List.toArray []))
noncomputable def qo_389 (P : Params) : Obj := (PySem.Obj.mk (PySem.Value.type "code") none (PySem.Data.fields (List.toArray [(PySem.Value.str (so "law") (699 : Nat)), (PySem.Value.str (so "law") (700 : Nat)), (PySem.Value.str (so "/claim/cut.py") (701 : Nat)), (PySem.Value.int (377 : Int) (0 : Nat)), (PySem.Value.int (1 : Int) (0 : Nat)), (PySem.Value.int (0 : Int) (0 : Nat)), (PySem.Value.int (0 : Int) (0 : Nat)), (PySem.Value.int (3 : Int) (0 : Nat)), (PySem.Value.ref (330 : Nat)), (PySem.Value.bool Bool.true), (PySem.Value.int (181 : Int) (0 : Nat)), (PySem.Value.ref (331 : Nat)), PySem.Value.none, PySem.Value.none, PySem.Value.none, (PySem.Value.ref (332 : Nat)), (PySem.Value.int (702 : Int) (0 : Nat)), (PySem.Value.int (377 : Int) (0 : Nat)), (PySem.Value.str (so "/claim/cut.py") (703 : Nat))])) (List.toArray []))
noncomputable def qo_390 (P : Params) : Obj := (PySem.Obj.mk (PySem.Value.type "function") none (PySem.Data.func (PySem.FuncData.mk (so "law") (so "law") pa334 (PySem.FuncBody.stmts bo334) sc334 (3 : Nat) (@List.nil (PySem.Str × Nat)) PySem.Value.none PySem.Value.none PySem.Value.none (PySem.Value.str (so "law_nz0190_01") (628 : Nat)) none (PySem.Value.ref (333 : Nat)) PySem.Value.none (0 : Nat))) (List.toArray []))
noncomputable def qheap_46 (P : Params) : Heap := (PySem.Heap.mk (Array.mk [(PySem.W.boot_o_0 P), (PySem.W.boot_o_1 P), (PySem.W.boot_o_2 P), (PySem.W.boot_o_3 P), (PySem.W.boot_o_4 P), (PySem.W.boot_o_5 P), (PySem.W.boot_o_6 P), (PySem.W.boot_o_7 P), (PySem.W.boot_o_8 P), (PySem.W.boot_o_9 P), (PySem.W.boot_o_10 P), (qo_43 P), (qo_44 P), (qo_45 P), (qo_46 P)]) (PySem.Life.mk [] [] [] (0 : Nat) (@List.nil (Nat × Nat)) [] Bool.false (List.toArray []) [] (0 : Nat) Bool.false Bool.false Bool.false (0 : Int) [(2000 : Int), (10 : Int), (10 : Int)] Bool.false (0 : Nat) Bool.true [] [] (0 : Nat) Bool.false))
noncomputable def qtree_47 (P : Params) : BT := (PySem.W.BT.node (PySem.W.boot_o_0 P) (PySem.W.BT.node (PySem.W.boot_o_1 P) (PySem.W.BT.node (PySem.W.boot_o_3 P) (PySem.W.BT.node (PySem.W.boot_o_7 P) PySem.W.BT.nil PySem.W.BT.nil) (PySem.W.BT.node (qo_43 P) PySem.W.BT.nil PySem.W.BT.nil)) (PySem.W.BT.node (PySem.W.boot_o_5 P) (PySem.W.BT.node (PySem.W.boot_o_9 P) PySem.W.BT.nil PySem.W.BT.nil) (PySem.W.BT.node (qo_45 P) PySem.W.BT.nil PySem.W.BT.nil))) (PySem.W.BT.node (PySem.W.boot_o_2 P) (PySem.W.BT.node (PySem.W.boot_o_4 P) (PySem.W.BT.node (PySem.W.boot_o_8 P) PySem.W.BT.nil PySem.W.BT.nil) (PySem.W.BT.node (qo_44 P) PySem.W.BT.nil PySem.W.BT.nil)) (PySem.W.BT.node (PySem.W.boot_o_6 P) (PySem.W.BT.node (PySem.W.boot_o_10 P) PySem.W.BT.nil PySem.W.BT.nil) (PySem.W.BT.node (qo_46 P) PySem.W.BT.nil PySem.W.BT.nil))))
noncomputable def qtree_71 (P : Params) : BT := (PySem.W.BT.node (PySem.W.boot_o_0 P) (PySem.W.BT.node (PySem.W.boot_o_1 P) (PySem.W.BT.node (qo_50 P) (PySem.W.BT.node (PySem.W.boot_o_7 P) (PySem.W.BT.node (qo_52 P) (PySem.W.BT.node (qo_68 P) PySem.W.BT.nil PySem.W.BT.nil) PySem.W.BT.nil) (PySem.W.BT.node (qo_60 P) PySem.W.BT.nil PySem.W.BT.nil)) (PySem.W.BT.node (qo_43 P) (PySem.W.BT.node (qo_56 P) PySem.W.BT.nil PySem.W.BT.nil) (PySem.W.BT.node (qo_64 P) PySem.W.BT.nil PySem.W.BT.nil))) (PySem.W.BT.node (PySem.W.boot_o_5 P) (PySem.W.BT.node (PySem.W.boot_o_9 P) (PySem.W.BT.node (qo_54 P) (PySem.W.BT.node (qo_70 P) PySem.W.BT.nil PySem.W.BT.nil) PySem.W.BT.nil) (PySem.W.BT.node (qo_62 P) PySem.W.BT.nil PySem.W.BT.nil)) (PySem.W.BT.node (qo_45 P) (PySem.W.BT.node (qo_58 P) PySem.W.BT.nil PySem.W.BT.nil) (PySem.W.BT.node (qo_66 P) PySem.W.BT.nil PySem.W.BT.nil)))) (PySem.W.BT.node (qo_49 P) (PySem.W.BT.node (PySem.W.boot_o_4 P) (PySem.W.BT.node (PySem.W.boot_o_8 P) (PySem.W.BT.node (qo_53 P) (PySem.W.BT.node (qo_69 P) PySem.W.BT.nil PySem.W.BT.nil) PySem.W.BT.nil) (PySem.W.BT.node (qo_61 P) PySem.W.BT.nil PySem.W.BT.nil)) (PySem.W.BT.node (qo_51 P) (PySem.W.BT.node (qo_57 P) PySem.W.BT.nil PySem.W.BT.nil) (PySem.W.BT.node (qo_65 P) PySem.W.BT.nil PySem.W.BT.nil))) (PySem.W.BT.node (PySem.W.boot_o_6 P) (PySem.W.BT.node (PySem.W.boot_o_10 P) (PySem.W.BT.node (qo_55 P) (PySem.W.BT.node (qo_71 P) PySem.W.BT.nil PySem.W.BT.nil) PySem.W.BT.nil) (PySem.W.BT.node (qo_63 P) PySem.W.BT.nil PySem.W.BT.nil)) (PySem.W.BT.node (qo_46 P) (PySem.W.BT.node (qo_59 P) PySem.W.BT.nil PySem.W.BT.nil) (PySem.W.BT.node (qo_67 P) PySem.W.BT.nil PySem.W.BT.nil)))))
noncomputable def qtree_94 (P : Params) : BT := (PySem.W.BT.node (PySem.W.boot_o_0 P) (PySem.W.BT.node (PySem.W.boot_o_1 P) (PySem.W.BT.node (qo_72 P) (PySem.W.BT.node (PySem.W.boot_o_7 P) (PySem.W.BT.node (qo_52 P) (PySem.W.BT.node (qo_74 P) PySem.W.BT.nil PySem.W.BT.nil) (PySem.W.BT.node (qo_87 P) PySem.W.BT.nil PySem.W.BT.nil)) (PySem.W.BT.node (qo_60 P) (PySem.W.BT.node (qo_79 P) PySem.W.BT.nil PySem.W.BT.nil) PySem.W.BT.nil)) (PySem.W.BT.node (qo_43 P) (PySem.W.BT.node (qo_56 P) (PySem.W.BT.node (qo_75 P) PySem.W.BT.nil PySem.W.BT.nil) (PySem.W.BT.node (qo_91 P) PySem.W.BT.nil PySem.W.BT.nil)) (PySem.W.BT.node (qo_64 P) (PySem.W.BT.node (qo_83 P) PySem.W.BT.nil PySem.W.BT.nil) PySem.W.BT.nil))) (PySem.W.BT.node (PySem.W.boot_o_5 P) (PySem.W.BT.node (PySem.W.boot_o_9 P) (PySem.W.BT.node (qo_54 P) (PySem.W.BT.node (qo_70 P) PySem.W.BT.nil PySem.W.BT.nil) (PySem.W.BT.node (qo_89 P) PySem.W.BT.nil PySem.W.BT.nil)) (PySem.W.BT.node (qo_62 P) (PySem.W.BT.node (qo_81 P) PySem.W.BT.nil PySem.W.BT.nil) PySem.W.BT.nil)) (PySem.W.BT.node (qo_45 P) (PySem.W.BT.node (qo_58 P) (PySem.W.BT.node (qo_77 P) PySem.W.BT.nil PySem.W.BT.nil) (PySem.W.BT.node (qo_93 P) PySem.W.BT.nil PySem.W.BT.nil)) (PySem.W.BT.node (qo_66 P) (PySem.W.BT.node (qo_85 P) PySem.W.BT.nil PySem.W.BT.nil) PySem.W.BT.nil)))) (PySem.W.BT.node (qo_49 P) (PySem.W.BT.node (PySem.W.boot_o_4 P) (PySem.W.BT.node (PySem.W.boot_o_8 P) (PySem.W.BT.node (qo_53 P) (PySem.W.BT.node (qo_69 P) PySem.W.BT.nil PySem.W.BT.nil) (PySem.W.BT.node (qo_88 P) PySem.W.BT.nil PySem.W.BT.nil)) (PySem.W.BT.node (qo_61 P) (PySem.W.BT.node (qo_80 P) PySem.W.BT.nil PySem.W.BT.nil) PySem.W.BT.nil)) (PySem.W.BT.node (qo_73 P) (PySem.W.BT.node (qo_57 P) (PySem.W.BT.node (qo_76 P) PySem.W.BT.nil PySem.W.BT.nil) (PySem.W.BT.node (qo_92 P) PySem.W.BT.nil PySem.W.BT.nil)) (PySem.W.BT.node (qo_65 P) (PySem.W.BT.node (qo_84 P) PySem.W.BT.nil PySem.W.BT.nil) PySem.W.BT.nil))) (PySem.W.BT.node (PySem.W.boot_o_6 P) (PySem.W.BT.node (PySem.W.boot_o_10 P) (PySem.W.BT.node (qo_55 P) (PySem.W.BT.node (qo_71 P) PySem.W.BT.nil PySem.W.BT.nil) (PySem.W.BT.node (qo_90 P) PySem.W.BT.nil PySem.W.BT.nil)) (PySem.W.BT.node (qo_63 P) (PySem.W.BT.node (qo_82 P) PySem.W.BT.nil PySem.W.BT.nil) PySem.W.BT.nil)) (PySem.W.BT.node (qo_46 P) (PySem.W.BT.node (qo_59 P) (PySem.W.BT.node (qo_78 P) PySem.W.BT.nil PySem.W.BT.nil) (PySem.W.BT.node (qo_94 P) PySem.W.BT.nil PySem.W.BT.nil)) (PySem.W.BT.node (qo_67 P) (PySem.W.BT.node (qo_86 P) PySem.W.BT.nil PySem.W.BT.nil) PySem.W.BT.nil)))))
noncomputable def qtree_155 (P : Params) : BT := (PySem.W.BT.node (PySem.W.boot_o_0 P) (PySem.W.BT.node (PySem.W.boot_o_1 P) (PySem.W.BT.node (qo_97 P) (PySem.W.BT.node (PySem.W.boot_o_7 P) (PySem.W.BT.node (qo_52 P) (PySem.W.BT.node (qo_74 P) (PySem.W.BT.node (qo_107 P) PySem.W.BT.nil PySem.W.BT.nil) (PySem.W.BT.node (qo_139 P) PySem.W.BT.nil PySem.W.BT.nil)) (PySem.W.BT.node (qo_87 P) (PySem.W.BT.node (qo_123 P) PySem.W.BT.nil PySem.W.BT.nil) (PySem.W.BT.node (qo_155 P) PySem.W.BT.nil PySem.W.BT.nil))) (PySem.W.BT.node (qo_60 P) (PySem.W.BT.node (qo_79 P) (PySem.W.BT.node (qo_115 P) PySem.W.BT.nil PySem.W.BT.nil) (PySem.W.BT.node (qo_147 P) PySem.W.BT.nil PySem.W.BT.nil)) (PySem.W.BT.node (qo_99 P) (PySem.W.BT.node (qo_131 P) PySem.W.BT.nil PySem.W.BT.nil) PySem.W.BT.nil))) (PySem.W.BT.node (qo_43 P) (PySem.W.BT.node (qo_56 P) (PySem.W.BT.node (qo_75 P) (PySem.W.BT.node (qo_111 P) PySem.W.BT.nil PySem.W.BT.nil) (PySem.W.BT.node (qo_143 P) PySem.W.BT.nil PySem.W.BT.nil)) (PySem.W.BT.node (qo_91 P) (PySem.W.BT.node (qo_127 P) PySem.W.BT.nil PySem.W.BT.nil) PySem.W.BT.nil)) (PySem.W.BT.node (qo_64 P) (PySem.W.BT.node (qo_83 P) (PySem.W.BT.node (qo_119 P) PySem.W.BT.nil PySem.W.BT.nil) (PySem.W.BT.node (qo_151 P) PySem.W.BT.nil PySem.W.BT.nil)) (PySem.W.BT.node (qo_103 P) (PySem.W.BT.node (qo_135 P) PySem.W.BT.nil PySem.W.BT.nil) PySem.W.BT.nil)))) (PySem.W.BT.node (PySem.W.boot_o_5 P) (PySem.W.BT.node (PySem.W.boot_o_9 P) (PySem.W.BT.node (qo_54 P) (PySem.W.BT.node (qo_70 P) (PySem.W.BT.node (qo_109 P) PySem.W.BT.nil PySem.W.BT.nil) (PySem.W.BT.node (qo_141 P) PySem.W.BT.nil PySem.W.BT.nil)) (PySem.W.BT.node (qo_89 P) (PySem.W.BT.node (qo_125 P) PySem.W.BT.nil PySem.W.BT.nil) PySem.W.BT.nil)) (PySem.W.BT.node (qo_62 P) (PySem.W.BT.node (qo_81 P) (PySem.W.BT.node (qo_117 P) PySem.W.BT.nil PySem.W.BT.nil) (PySem.W.BT.node (qo_149 P) PySem.W.BT.nil PySem.W.BT.nil)) (PySem.W.BT.node (qo_101 P) (PySem.W.BT.node (qo_133 P) PySem.W.BT.nil PySem.W.BT.nil) PySem.W.BT.nil))) (PySem.W.BT.node (qo_45 P) (PySem.W.BT.node (qo_58 P) (PySem.W.BT.node (qo_77 P) (PySem.W.BT.node (qo_113 P) PySem.W.BT.nil PySem.W.BT.nil) (PySem.W.BT.node (qo_145 P) PySem.W.BT.nil PySem.W.BT.nil)) (PySem.W.BT.node (qo_93 P) (PySem.W.BT.node (qo_129 P) PySem.W.BT.nil PySem.W.BT.nil) PySem.W.BT.nil)) (PySem.W.BT.node (qo_66 P) (PySem.W.BT.node (qo_85 P) (PySem.W.BT.node (qo_121 P) PySem.W.BT.nil PySem.W.BT.nil) (PySem.W.BT.node (qo_153 P) PySem.W.BT.nil PySem.W.BT.nil)) (PySem.W.BT.node (qo_105 P) (PySem.W.BT.node (qo_137 P) PySem.W.BT.nil PySem.W.BT.nil) PySem.W.BT.nil))))) (PySem.W.BT.node (qo_49 P) (PySem.W.BT.node (PySem.W.boot_o_4 P) (PySem.W.BT.node (PySem.W.boot_o_8 P) (PySem.W.BT.node (qo_53 P) (PySem.W.BT.node (qo_69 P) (PySem.W.BT.node (qo_108 P) PySem.W.BT.nil PySem.W.BT.nil) (PySem.W.BT.node (qo_140 P) PySem.W.BT.nil PySem.W.BT.nil)) (PySem.W.BT.node (qo_88 P) (PySem.W.BT.node (qo_124 P) PySem.W.BT.nil PySem.W.BT.nil) PySem.W.BT.nil)) (PySem.W.BT.node (qo_61 P) (PySem.W.BT.node (qo_80 P) (PySem.W.BT.node (qo_116 P) PySem.W.BT.nil PySem.W.BT.nil) (PySem.W.BT.node (qo_148 P) PySem.W.BT.nil PySem.W.BT.nil)) (PySem.W.BT.node (qo_100 P) (PySem.W.BT.node (qo_132 P) PySem.W.BT.nil PySem.W.BT.nil) PySem.W.BT.nil))) (PySem.W.BT.node (qo_98 P) (PySem.W.BT.node (qo_57 P) (PySem.W.BT.node (qo_76 P) (PySem.W.BT.node (qo_112 P) PySem.W.BT.nil PySem.W.BT.nil) (PySem.W.BT.node (qo_144 P) PySem.W.BT.nil PySem.W.BT.nil)) (PySem.W.BT.node (qo_92 P) (PySem.W.BT.node (qo_128 P) PySem.W.BT.nil PySem.W.BT.nil) PySem.W.BT.nil)) (PySem.W.BT.node (qo_65 P) (PySem.W.BT.node (qo_84 P) (PySem.W.BT.node (qo_120 P) PySem.W.BT.nil PySem.W.BT.nil) (PySem.W.BT.node (qo_152 P) PySem.W.BT.nil PySem.W.BT.nil)) (PySem.W.BT.node (qo_104 P) (PySem.W.BT.node (qo_136 P) PySem.W.BT.nil PySem.W.BT.nil) PySem.W.BT.nil)))) (PySem.W.BT.node (PySem.W.boot_o_6 P) (PySem.W.BT.node (PySem.W.boot_o_10 P) (PySem.W.BT.node (qo_55 P) (PySem.W.BT.node (qo_71 P) (PySem.W.BT.node (qo_110 P) PySem.W.BT.nil PySem.W.BT.nil) (PySem.W.BT.node (qo_142 P) PySem.W.BT.nil PySem.W.BT.nil)) (PySem.W.BT.node (qo_90 P) (PySem.W.BT.node (qo_126 P) PySem.W.BT.nil PySem.W.BT.nil) PySem.W.BT.nil)) (PySem.W.BT.node (qo_63 P) (PySem.W.BT.node (qo_82 P) (PySem.W.BT.node (qo_118 P) PySem.W.BT.nil PySem.W.BT.nil) (PySem.W.BT.node (qo_150 P) PySem.W.BT.nil PySem.W.BT.nil)) (PySem.W.BT.node (qo_102 P) (PySem.W.BT.node (qo_134 P) PySem.W.BT.nil PySem.W.BT.nil) PySem.W.BT.nil))) (PySem.W.BT.node (qo_46 P) (PySem.W.BT.node (qo_59 P) (PySem.W.BT.node (qo_78 P) (PySem.W.BT.node (qo_114 P) PySem.W.BT.nil PySem.W.BT.nil) (PySem.W.BT.node (qo_146 P) PySem.W.BT.nil PySem.W.BT.nil)) (PySem.W.BT.node (qo_94 P) (PySem.W.BT.node (qo_130 P) PySem.W.BT.nil PySem.W.BT.nil) PySem.W.BT.nil)) (PySem.W.BT.node (qo_67 P) (PySem.W.BT.node (qo_86 P) (PySem.W.BT.node (qo_122 P) PySem.W.BT.nil PySem.W.BT.nil) (PySem.W.BT.node (qo_154 P) PySem.W.BT.nil PySem.W.BT.nil)) (PySem.W.BT.node (qo_106 P) (PySem.W.BT.node (qo_138 P) PySem.W.BT.nil PySem.W.BT.nil) PySem.W.BT.nil))))))
noncomputable def qtree_236 (P : Params) : BT := (PySem.W.BT.node (PySem.W.boot_o_0 P) (PySem.W.BT.node (PySem.W.boot_o_1 P) (PySem.W.BT.node (qo_158 P) (PySem.W.BT.node (PySem.W.boot_o_7 P) (PySem.W.BT.node (qo_52 P) (PySem.W.BT.node (qo_74 P) (PySem.W.BT.node (qo_107 P) (PySem.W.BT.node (qo_175 P) PySem.W.BT.nil PySem.W.BT.nil) PySem.W.BT.nil) (PySem.W.BT.node (qo_139 P) (PySem.W.BT.node (qo_207 P) PySem.W.BT.nil PySem.W.BT.nil) PySem.W.BT.nil)) (PySem.W.BT.node (qo_87 P) (PySem.W.BT.node (qo_123 P) (PySem.W.BT.node (qo_191 P) PySem.W.BT.nil PySem.W.BT.nil) PySem.W.BT.nil) (PySem.W.BT.node (qo_155 P) (PySem.W.BT.node (qo_223 P) PySem.W.BT.nil PySem.W.BT.nil) PySem.W.BT.nil))) (PySem.W.BT.node (qo_60 P) (PySem.W.BT.node (qo_79 P) (PySem.W.BT.node (qo_115 P) (PySem.W.BT.node (qo_183 P) PySem.W.BT.nil PySem.W.BT.nil) PySem.W.BT.nil) (PySem.W.BT.node (qo_147 P) (PySem.W.BT.node (qo_215 P) PySem.W.BT.nil PySem.W.BT.nil) PySem.W.BT.nil)) (PySem.W.BT.node (qo_99 P) (PySem.W.BT.node (qo_131 P) (PySem.W.BT.node (qo_199 P) PySem.W.BT.nil PySem.W.BT.nil) PySem.W.BT.nil) (PySem.W.BT.node (qo_167 P) (PySem.W.BT.node (qo_231 P) PySem.W.BT.nil PySem.W.BT.nil) PySem.W.BT.nil)))) (PySem.W.BT.node (qo_43 P) (PySem.W.BT.node (qo_56 P) (PySem.W.BT.node (qo_75 P) (PySem.W.BT.node (qo_111 P) (PySem.W.BT.node (qo_179 P) PySem.W.BT.nil PySem.W.BT.nil) PySem.W.BT.nil) (PySem.W.BT.node (qo_143 P) (PySem.W.BT.node (qo_211 P) PySem.W.BT.nil PySem.W.BT.nil) PySem.W.BT.nil)) (PySem.W.BT.node (qo_91 P) (PySem.W.BT.node (qo_127 P) (PySem.W.BT.node (qo_195 P) PySem.W.BT.nil PySem.W.BT.nil) PySem.W.BT.nil) (PySem.W.BT.node (qo_163 P) (PySem.W.BT.node (qo_227 P) PySem.W.BT.nil PySem.W.BT.nil) PySem.W.BT.nil))) (PySem.W.BT.node (qo_64 P) (PySem.W.BT.node (qo_83 P) (PySem.W.BT.node (qo_119 P) (PySem.W.BT.node (qo_187 P) PySem.W.BT.nil PySem.W.BT.nil) PySem.W.BT.nil) (PySem.W.BT.node (qo_151 P) (PySem.W.BT.node (qo_219 P) PySem.W.BT.nil PySem.W.BT.nil) PySem.W.BT.nil)) (PySem.W.BT.node (qo_103 P) (PySem.W.BT.node (qo_135 P) (PySem.W.BT.node (qo_203 P) PySem.W.BT.nil PySem.W.BT.nil) PySem.W.BT.nil) (PySem.W.BT.node (qo_171 P) (PySem.W.BT.node (qo_235 P) PySem.W.BT.nil PySem.W.BT.nil) PySem.W.BT.nil))))) (PySem.W.BT.node (PySem.W.boot_o_5 P) (PySem.W.BT.node (PySem.W.boot_o_9 P) (PySem.W.BT.node (qo_54 P) (PySem.W.BT.node (qo_70 P) (PySem.W.BT.node (qo_109 P) (PySem.W.BT.node (qo_177 P) PySem.W.BT.nil PySem.W.BT.nil) PySem.W.BT.nil) (PySem.W.BT.node (qo_141 P) (PySem.W.BT.node (qo_209 P) PySem.W.BT.nil PySem.W.BT.nil) PySem.W.BT.nil)) (PySem.W.BT.node (qo_89 P) (PySem.W.BT.node (qo_125 P) (PySem.W.BT.node (qo_193 P) PySem.W.BT.nil PySem.W.BT.nil) PySem.W.BT.nil) (PySem.W.BT.node (qo_161 P) (PySem.W.BT.node (qo_225 P) PySem.W.BT.nil PySem.W.BT.nil) PySem.W.BT.nil))) (PySem.W.BT.node (qo_62 P) (PySem.W.BT.node (qo_81 P) (PySem.W.BT.node (qo_117 P) (PySem.W.BT.node (qo_185 P) PySem.W.BT.nil PySem.W.BT.nil) PySem.W.BT.nil) (PySem.W.BT.node (qo_149 P) (PySem.W.BT.node (qo_217 P) PySem.W.BT.nil PySem.W.BT.nil) PySem.W.BT.nil)) (PySem.W.BT.node (qo_101 P) (PySem.W.BT.node (qo_133 P) (PySem.W.BT.node (qo_201 P) PySem.W.BT.nil PySem.W.BT.nil) PySem.W.BT.nil) (PySem.W.BT.node (qo_169 P) (PySem.W.BT.node (qo_233 P) PySem.W.BT.nil PySem.W.BT.nil) PySem.W.BT.nil)))) (PySem.W.BT.node (qo_45 P) (PySem.W.BT.node (qo_58 P) (PySem.W.BT.node (qo_77 P) (PySem.W.BT.node (qo_113 P) (PySem.W.BT.node (qo_181 P) PySem.W.BT.nil PySem.W.BT.nil) PySem.W.BT.nil) (PySem.W.BT.node (qo_145 P) (PySem.W.BT.node (qo_213 P) PySem.W.BT.nil PySem.W.BT.nil) PySem.W.BT.nil)) (PySem.W.BT.node (qo_93 P) (PySem.W.BT.node (qo_129 P) (PySem.W.BT.node (qo_197 P) PySem.W.BT.nil PySem.W.BT.nil) PySem.W.BT.nil) (PySem.W.BT.node (qo_165 P) (PySem.W.BT.node (qo_229 P) PySem.W.BT.nil PySem.W.BT.nil) PySem.W.BT.nil))) (PySem.W.BT.node (qo_66 P) (PySem.W.BT.node (qo_85 P) (PySem.W.BT.node (qo_121 P) (PySem.W.BT.node (qo_189 P) PySem.W.BT.nil PySem.W.BT.nil) PySem.W.BT.nil) (PySem.W.BT.node (qo_153 P) (PySem.W.BT.node (qo_221 P) PySem.W.BT.nil PySem.W.BT.nil) PySem.W.BT.nil)) (PySem.W.BT.node (qo_105 P) (PySem.W.BT.node (qo_137 P) (PySem.W.BT.node (qo_205 P) PySem.W.BT.nil PySem.W.BT.nil) PySem.W.BT.nil) (PySem.W.BT.node (qo_173 P) PySem.W.BT.nil PySem.W.BT.nil)))))) (PySem.W.BT.node (qo_49 P) (PySem.W.BT.node (PySem.W.boot_o_4 P) (PySem.W.BT.node (PySem.W.boot_o_8 P) (PySem.W.BT.node (qo_53 P) (PySem.W.BT.node (qo_69 P) (PySem.W.BT.node (qo_108 P) (PySem.W.BT.node (qo_176 P) PySem.W.BT.nil PySem.W.BT.nil) PySem.W.BT.nil) (PySem.W.BT.node (qo_140 P) (PySem.W.BT.node (qo_208 P) PySem.W.BT.nil PySem.W.BT.nil) PySem.W.BT.nil)) (PySem.W.BT.node (qo_88 P) (PySem.W.BT.node (qo_124 P) (PySem.W.BT.node (qo_192 P) PySem.W.BT.nil PySem.W.BT.nil) PySem.W.BT.nil) (PySem.W.BT.node (qo_160 P) (PySem.W.BT.node (qo_224 P) PySem.W.BT.nil PySem.W.BT.nil) PySem.W.BT.nil))) (PySem.W.BT.node (qo_61 P) (PySem.W.BT.node (qo_80 P) (PySem.W.BT.node (qo_116 P) (PySem.W.BT.node (qo_184 P) PySem.W.BT.nil PySem.W.BT.nil) PySem.W.BT.nil) (PySem.W.BT.node (qo_148 P) (PySem.W.BT.node (qo_216 P) PySem.W.BT.nil PySem.W.BT.nil) PySem.W.BT.nil)) (PySem.W.BT.node (qo_100 P) (PySem.W.BT.node (qo_132 P) (PySem.W.BT.node (qo_200 P) PySem.W.BT.nil PySem.W.BT.nil) PySem.W.BT.nil) (PySem.W.BT.node (qo_168 P) (PySem.W.BT.node (qo_232 P) PySem.W.BT.nil PySem.W.BT.nil) PySem.W.BT.nil)))) (PySem.W.BT.node (qo_159 P) (PySem.W.BT.node (qo_57 P) (PySem.W.BT.node (qo_76 P) (PySem.W.BT.node (qo_112 P) (PySem.W.BT.node (qo_180 P) PySem.W.BT.nil PySem.W.BT.nil) PySem.W.BT.nil) (PySem.W.BT.node (qo_144 P) (PySem.W.BT.node (qo_212 P) PySem.W.BT.nil PySem.W.BT.nil) PySem.W.BT.nil)) (PySem.W.BT.node (qo_92 P) (PySem.W.BT.node (qo_128 P) (PySem.W.BT.node (qo_196 P) PySem.W.BT.nil PySem.W.BT.nil) PySem.W.BT.nil) (PySem.W.BT.node (qo_164 P) (PySem.W.BT.node (qo_228 P) PySem.W.BT.nil PySem.W.BT.nil) PySem.W.BT.nil))) (PySem.W.BT.node (qo_65 P) (PySem.W.BT.node (qo_84 P) (PySem.W.BT.node (qo_120 P) (PySem.W.BT.node (qo_188 P) PySem.W.BT.nil PySem.W.BT.nil) PySem.W.BT.nil) (PySem.W.BT.node (qo_152 P) (PySem.W.BT.node (qo_220 P) PySem.W.BT.nil PySem.W.BT.nil) PySem.W.BT.nil)) (PySem.W.BT.node (qo_104 P) (PySem.W.BT.node (qo_136 P) (PySem.W.BT.node (qo_204 P) PySem.W.BT.nil PySem.W.BT.nil) PySem.W.BT.nil) (PySem.W.BT.node (qo_172 P) (PySem.W.BT.node (qo_236 P) PySem.W.BT.nil PySem.W.BT.nil) PySem.W.BT.nil))))) (PySem.W.BT.node (PySem.W.boot_o_6 P) (PySem.W.BT.node (PySem.W.boot_o_10 P) (PySem.W.BT.node (qo_55 P) (PySem.W.BT.node (qo_71 P) (PySem.W.BT.node (qo_110 P) (PySem.W.BT.node (qo_178 P) PySem.W.BT.nil PySem.W.BT.nil) PySem.W.BT.nil) (PySem.W.BT.node (qo_142 P) (PySem.W.BT.node (qo_210 P) PySem.W.BT.nil PySem.W.BT.nil) PySem.W.BT.nil)) (PySem.W.BT.node (qo_90 P) (PySem.W.BT.node (qo_126 P) (PySem.W.BT.node (qo_194 P) PySem.W.BT.nil PySem.W.BT.nil) PySem.W.BT.nil) (PySem.W.BT.node (qo_162 P) (PySem.W.BT.node (qo_226 P) PySem.W.BT.nil PySem.W.BT.nil) PySem.W.BT.nil))) (PySem.W.BT.node (qo_63 P) (PySem.W.BT.node (qo_82 P) (PySem.W.BT.node (qo_118 P) (PySem.W.BT.node (qo_186 P) PySem.W.BT.nil PySem.W.BT.nil) PySem.W.BT.nil) (PySem.W.BT.node (qo_150 P) (PySem.W.BT.node (qo_218 P) PySem.W.BT.nil PySem.W.BT.nil) PySem.W.BT.nil)) (PySem.W.BT.node (qo_102 P) (PySem.W.BT.node (qo_134 P) (PySem.W.BT.node (qo_202 P) PySem.W.BT.nil PySem.W.BT.nil) PySem.W.BT.nil) (PySem.W.BT.node (qo_170 P) (PySem.W.BT.node (qo_234 P) PySem.W.BT.nil PySem.W.BT.nil) PySem.W.BT.nil)))) (PySem.W.BT.node (qo_46 P) (PySem.W.BT.node (qo_59 P) (PySem.W.BT.node (qo_78 P) (PySem.W.BT.node (qo_114 P) (PySem.W.BT.node (qo_182 P) PySem.W.BT.nil PySem.W.BT.nil) PySem.W.BT.nil) (PySem.W.BT.node (qo_146 P) (PySem.W.BT.node (qo_214 P) PySem.W.BT.nil PySem.W.BT.nil) PySem.W.BT.nil)) (PySem.W.BT.node (qo_94 P) (PySem.W.BT.node (qo_130 P) (PySem.W.BT.node (qo_198 P) PySem.W.BT.nil PySem.W.BT.nil) PySem.W.BT.nil) (PySem.W.BT.node (qo_166 P) (PySem.W.BT.node (qo_230 P) PySem.W.BT.nil PySem.W.BT.nil) PySem.W.BT.nil))) (PySem.W.BT.node (qo_67 P) (PySem.W.BT.node (qo_86 P) (PySem.W.BT.node (qo_122 P) (PySem.W.BT.node (qo_190 P) PySem.W.BT.nil PySem.W.BT.nil) PySem.W.BT.nil) (PySem.W.BT.node (qo_154 P) (PySem.W.BT.node (qo_222 P) PySem.W.BT.nil PySem.W.BT.nil) PySem.W.BT.nil)) (PySem.W.BT.node (qo_106 P) (PySem.W.BT.node (qo_138 P) (PySem.W.BT.node (qo_206 P) PySem.W.BT.nil PySem.W.BT.nil) PySem.W.BT.nil) (PySem.W.BT.node (qo_174 P) PySem.W.BT.nil PySem.W.BT.nil)))))))
noncomputable def qtree_322 (P : Params) : BT := (PySem.W.BT.node (PySem.W.boot_o_0 P) (PySem.W.BT.node (PySem.W.boot_o_1 P) (PySem.W.BT.node (qo_237 P) (PySem.W.BT.node (PySem.W.boot_o_7 P) (PySem.W.BT.node (qo_52 P) (PySem.W.BT.node (qo_74 P) (PySem.W.BT.node (qo_107 P) (PySem.W.BT.node (qo_175 P) (PySem.W.BT.node (qo_305 P) PySem.W.BT.nil PySem.W.BT.nil) PySem.W.BT.nil) (PySem.W.BT.node (qo_241 P) PySem.W.BT.nil PySem.W.BT.nil)) (PySem.W.BT.node (qo_139 P) (PySem.W.BT.node (qo_207 P) PySem.W.BT.nil PySem.W.BT.nil) (PySem.W.BT.node (qo_273 P) PySem.W.BT.nil PySem.W.BT.nil))) (PySem.W.BT.node (qo_87 P) (PySem.W.BT.node (qo_123 P) (PySem.W.BT.node (qo_191 P) (PySem.W.BT.node (qo_321 P) PySem.W.BT.nil PySem.W.BT.nil) PySem.W.BT.nil) (PySem.W.BT.node (qo_257 P) PySem.W.BT.nil PySem.W.BT.nil)) (PySem.W.BT.node (qo_155 P) (PySem.W.BT.node (qo_223 P) PySem.W.BT.nil PySem.W.BT.nil) (PySem.W.BT.node (qo_289 P) PySem.W.BT.nil PySem.W.BT.nil)))) (PySem.W.BT.node (qo_60 P) (PySem.W.BT.node (qo_79 P) (PySem.W.BT.node (qo_115 P) (PySem.W.BT.node (qo_183 P) (PySem.W.BT.node (qo_313 P) PySem.W.BT.nil PySem.W.BT.nil) PySem.W.BT.nil) (PySem.W.BT.node (qo_249 P) PySem.W.BT.nil PySem.W.BT.nil)) (PySem.W.BT.node (qo_147 P) (PySem.W.BT.node (qo_215 P) PySem.W.BT.nil PySem.W.BT.nil) (PySem.W.BT.node (qo_281 P) PySem.W.BT.nil PySem.W.BT.nil))) (PySem.W.BT.node (qo_99 P) (PySem.W.BT.node (qo_131 P) (PySem.W.BT.node (qo_199 P) PySem.W.BT.nil PySem.W.BT.nil) (PySem.W.BT.node (qo_265 P) PySem.W.BT.nil PySem.W.BT.nil)) (PySem.W.BT.node (qo_167 P) (PySem.W.BT.node (qo_231 P) PySem.W.BT.nil PySem.W.BT.nil) (PySem.W.BT.node (qo_297 P) PySem.W.BT.nil PySem.W.BT.nil))))) (PySem.W.BT.node (qo_43 P) (PySem.W.BT.node (qo_56 P) (PySem.W.BT.node (qo_75 P) (PySem.W.BT.node (qo_111 P) (PySem.W.BT.node (qo_179 P) (PySem.W.BT.node (qo_309 P) PySem.W.BT.nil PySem.W.BT.nil) PySem.W.BT.nil) (PySem.W.BT.node (qo_245 P) PySem.W.BT.nil PySem.W.BT.nil)) (PySem.W.BT.node (qo_143 P) (PySem.W.BT.node (qo_211 P) PySem.W.BT.nil PySem.W.BT.nil) (PySem.W.BT.node (qo_277 P) PySem.W.BT.nil PySem.W.BT.nil))) (PySem.W.BT.node (qo_91 P) (PySem.W.BT.node (qo_127 P) (PySem.W.BT.node (qo_195 P) PySem.W.BT.nil PySem.W.BT.nil) (PySem.W.BT.node (qo_261 P) PySem.W.BT.nil PySem.W.BT.nil)) (PySem.W.BT.node (qo_163 P) (PySem.W.BT.node (qo_227 P) PySem.W.BT.nil PySem.W.BT.nil) (PySem.W.BT.node (qo_293 P) PySem.W.BT.nil PySem.W.BT.nil)))) (PySem.W.BT.node (qo_64 P) (PySem.W.BT.node (qo_83 P) (PySem.W.BT.node (qo_119 P) (PySem.W.BT.node (qo_187 P) (PySem.W.BT.node (qo_317 P) PySem.W.BT.nil PySem.W.BT.nil) PySem.W.BT.nil) (PySem.W.BT.node (qo_253 P) PySem.W.BT.nil PySem.W.BT.nil)) (PySem.W.BT.node (qo_151 P) (PySem.W.BT.node (qo_219 P) PySem.W.BT.nil PySem.W.BT.nil) (PySem.W.BT.node (qo_285 P) PySem.W.BT.nil PySem.W.BT.nil))) (PySem.W.BT.node (qo_103 P) (PySem.W.BT.node (qo_135 P) (PySem.W.BT.node (qo_203 P) PySem.W.BT.nil PySem.W.BT.nil) (PySem.W.BT.node (qo_269 P) PySem.W.BT.nil PySem.W.BT.nil)) (PySem.W.BT.node (qo_171 P) (PySem.W.BT.node (qo_235 P) PySem.W.BT.nil PySem.W.BT.nil) (PySem.W.BT.node (qo_301 P) PySem.W.BT.nil PySem.W.BT.nil)))))) (PySem.W.BT.node (PySem.W.boot_o_5 P) (PySem.W.BT.node (PySem.W.boot_o_9 P) (PySem.W.BT.node (qo_54 P) (PySem.W.BT.node (qo_70 P) (PySem.W.BT.node (qo_109 P) (PySem.W.BT.node (qo_177 P) (PySem.W.BT.node (qo_307 P) PySem.W.BT.nil PySem.W.BT.nil) PySem.W.BT.nil) (PySem.W.BT.node (qo_243 P) PySem.W.BT.nil PySem.W.BT.nil)) (PySem.W.BT.node (qo_141 P) (PySem.W.BT.node (qo_209 P) PySem.W.BT.nil PySem.W.BT.nil) (PySem.W.BT.node (qo_275 P) PySem.W.BT.nil PySem.W.BT.nil))) (PySem.W.BT.node (qo_89 P) (PySem.W.BT.node (qo_125 P) (PySem.W.BT.node (qo_193 P) PySem.W.BT.nil PySem.W.BT.nil) (PySem.W.BT.node (qo_259 P) PySem.W.BT.nil PySem.W.BT.nil)) (PySem.W.BT.node (qo_161 P) (PySem.W.BT.node (qo_225 P) PySem.W.BT.nil PySem.W.BT.nil) (PySem.W.BT.node (qo_291 P) PySem.W.BT.nil PySem.W.BT.nil)))) (PySem.W.BT.node (qo_62 P) (PySem.W.BT.node (qo_81 P) (PySem.W.BT.node (qo_117 P) (PySem.W.BT.node (qo_185 P) (PySem.W.BT.node (qo_315 P) PySem.W.BT.nil PySem.W.BT.nil) PySem.W.BT.nil) (PySem.W.BT.node (qo_251 P) PySem.W.BT.nil PySem.W.BT.nil)) (PySem.W.BT.node (qo_149 P) (PySem.W.BT.node (qo_217 P) PySem.W.BT.nil PySem.W.BT.nil) (PySem.W.BT.node (qo_283 P) PySem.W.BT.nil PySem.W.BT.nil))) (PySem.W.BT.node (qo_101 P) (PySem.W.BT.node (qo_133 P) (PySem.W.BT.node (qo_201 P) PySem.W.BT.nil PySem.W.BT.nil) (PySem.W.BT.node (qo_267 P) PySem.W.BT.nil PySem.W.BT.nil)) (PySem.W.BT.node (qo_169 P) (PySem.W.BT.node (qo_233 P) PySem.W.BT.nil PySem.W.BT.nil) (PySem.W.BT.node (qo_299 P) PySem.W.BT.nil PySem.W.BT.nil))))) (PySem.W.BT.node (qo_45 P) (PySem.W.BT.node (qo_58 P) (PySem.W.BT.node (qo_77 P) (PySem.W.BT.node (qo_113 P) (PySem.W.BT.node (qo_181 P) (PySem.W.BT.node (qo_311 P) PySem.W.BT.nil PySem.W.BT.nil) PySem.W.BT.nil) (PySem.W.BT.node (qo_247 P) PySem.W.BT.nil PySem.W.BT.nil)) (PySem.W.BT.node (qo_145 P) (PySem.W.BT.node (qo_213 P) PySem.W.BT.nil PySem.W.BT.nil) (PySem.W.BT.node (qo_279 P) PySem.W.BT.nil PySem.W.BT.nil))) (PySem.W.BT.node (qo_93 P) (PySem.W.BT.node (qo_129 P) (PySem.W.BT.node (qo_197 P) PySem.W.BT.nil PySem.W.BT.nil) (PySem.W.BT.node (qo_263 P) PySem.W.BT.nil PySem.W.BT.nil)) (PySem.W.BT.node (qo_165 P) (PySem.W.BT.node (qo_229 P) PySem.W.BT.nil PySem.W.BT.nil) (PySem.W.BT.node (qo_295 P) PySem.W.BT.nil PySem.W.BT.nil)))) (PySem.W.BT.node (qo_66 P) (PySem.W.BT.node (qo_85 P) (PySem.W.BT.node (qo_121 P) (PySem.W.BT.node (qo_189 P) (PySem.W.BT.node (qo_319 P) PySem.W.BT.nil PySem.W.BT.nil) PySem.W.BT.nil) (PySem.W.BT.node (qo_255 P) PySem.W.BT.nil PySem.W.BT.nil)) (PySem.W.BT.node (qo_153 P) (PySem.W.BT.node (qo_221 P) PySem.W.BT.nil PySem.W.BT.nil) (PySem.W.BT.node (qo_287 P) PySem.W.BT.nil PySem.W.BT.nil))) (PySem.W.BT.node (qo_105 P) (PySem.W.BT.node (qo_137 P) (PySem.W.BT.node (qo_205 P) PySem.W.BT.nil PySem.W.BT.nil) (PySem.W.BT.node (qo_271 P) PySem.W.BT.nil PySem.W.BT.nil)) (PySem.W.BT.node (qo_173 P) (PySem.W.BT.node (qo_239 P) PySem.W.BT.nil PySem.W.BT.nil) (PySem.W.BT.node (qo_303 P) PySem.W.BT.nil PySem.W.BT.nil))))))) (PySem.W.BT.node (qo_49 P) (PySem.W.BT.node (PySem.W.boot_o_4 P) (PySem.W.BT.node (PySem.W.boot_o_8 P) (PySem.W.BT.node (qo_53 P) (PySem.W.BT.node (qo_69 P) (PySem.W.BT.node (qo_108 P) (PySem.W.BT.node (qo_176 P) (PySem.W.BT.node (qo_306 P) PySem.W.BT.nil PySem.W.BT.nil) PySem.W.BT.nil) (PySem.W.BT.node (qo_242 P) PySem.W.BT.nil PySem.W.BT.nil)) (PySem.W.BT.node (qo_140 P) (PySem.W.BT.node (qo_208 P) PySem.W.BT.nil PySem.W.BT.nil) (PySem.W.BT.node (qo_274 P) PySem.W.BT.nil PySem.W.BT.nil))) (PySem.W.BT.node (qo_88 P) (PySem.W.BT.node (qo_124 P) (PySem.W.BT.node (qo_192 P) (PySem.W.BT.node (qo_322 P) PySem.W.BT.nil PySem.W.BT.nil) PySem.W.BT.nil) (PySem.W.BT.node (qo_258 P) PySem.W.BT.nil PySem.W.BT.nil)) (PySem.W.BT.node (qo_160 P) (PySem.W.BT.node (qo_224 P) PySem.W.BT.nil PySem.W.BT.nil) (PySem.W.BT.node (qo_290 P) PySem.W.BT.nil PySem.W.BT.nil)))) (PySem.W.BT.node (qo_61 P) (PySem.W.BT.node (qo_80 P) (PySem.W.BT.node (qo_116 P) (PySem.W.BT.node (qo_184 P) (PySem.W.BT.node (qo_314 P) PySem.W.BT.nil PySem.W.BT.nil) PySem.W.BT.nil) (PySem.W.BT.node (qo_250 P) PySem.W.BT.nil PySem.W.BT.nil)) (PySem.W.BT.node (qo_148 P) (PySem.W.BT.node (qo_216 P) PySem.W.BT.nil PySem.W.BT.nil) (PySem.W.BT.node (qo_282 P) PySem.W.BT.nil PySem.W.BT.nil))) (PySem.W.BT.node (qo_100 P) (PySem.W.BT.node (qo_132 P) (PySem.W.BT.node (qo_200 P) PySem.W.BT.nil PySem.W.BT.nil) (PySem.W.BT.node (qo_266 P) PySem.W.BT.nil PySem.W.BT.nil)) (PySem.W.BT.node (qo_168 P) (PySem.W.BT.node (qo_232 P) PySem.W.BT.nil PySem.W.BT.nil) (PySem.W.BT.node (qo_298 P) PySem.W.BT.nil PySem.W.BT.nil))))) (PySem.W.BT.node (qo_238 P) (PySem.W.BT.node (qo_57 P) (PySem.W.BT.node (qo_76 P) (PySem.W.BT.node (qo_112 P) (PySem.W.BT.node (qo_180 P) (PySem.W.BT.node (qo_310 P) PySem.W.BT.nil PySem.W.BT.nil) PySem.W.BT.nil) (PySem.W.BT.node (qo_246 P) PySem.W.BT.nil PySem.W.BT.nil)) (PySem.W.BT.node (qo_144 P) (PySem.W.BT.node (qo_212 P) PySem.W.BT.nil PySem.W.BT.nil) (PySem.W.BT.node (qo_278 P) PySem.W.BT.nil PySem.W.BT.nil))) (PySem.W.BT.node (qo_92 P) (PySem.W.BT.node (qo_128 P) (PySem.W.BT.node (qo_196 P) PySem.W.BT.nil PySem.W.BT.nil) (PySem.W.BT.node (qo_262 P) PySem.W.BT.nil PySem.W.BT.nil)) (PySem.W.BT.node (qo_164 P) (PySem.W.BT.node (qo_228 P) PySem.W.BT.nil PySem.W.BT.nil) (PySem.W.BT.node (qo_294 P) PySem.W.BT.nil PySem.W.BT.nil)))) (PySem.W.BT.node (qo_65 P) (PySem.W.BT.node (qo_84 P) (PySem.W.BT.node (qo_120 P) (PySem.W.BT.node (qo_188 P) (PySem.W.BT.node (qo_318 P) PySem.W.BT.nil PySem.W.BT.nil) PySem.W.BT.nil) (PySem.W.BT.node (qo_254 P) PySem.W.BT.nil PySem.W.BT.nil)) (PySem.W.BT.node (qo_152 P) (PySem.W.BT.node (qo_220 P) PySem.W.BT.nil PySem.W.BT.nil) (PySem.W.BT.node (qo_286 P) PySem.W.BT.nil PySem.W.BT.nil))) (PySem.W.BT.node (qo_104 P) (PySem.W.BT.node (qo_136 P) (PySem.W.BT.node (qo_204 P) PySem.W.BT.nil PySem.W.BT.nil) (PySem.W.BT.node (qo_270 P) PySem.W.BT.nil PySem.W.BT.nil)) (PySem.W.BT.node (qo_172 P) (PySem.W.BT.node (qo_236 P) PySem.W.BT.nil PySem.W.BT.nil) (PySem.W.BT.node (qo_302 P) PySem.W.BT.nil PySem.W.BT.nil)))))) (PySem.W.BT.node (PySem.W.boot_o_6 P) (PySem.W.BT.node (PySem.W.boot_o_10 P) (PySem.W.BT.node (qo_55 P) (PySem.W.BT.node (qo_71 P) (PySem.W.BT.node (qo_110 P) (PySem.W.BT.node (qo_178 P) (PySem.W.BT.node (qo_308 P) PySem.W.BT.nil PySem.W.BT.nil) PySem.W.BT.nil) (PySem.W.BT.node (qo_244 P) PySem.W.BT.nil PySem.W.BT.nil)) (PySem.W.BT.node (qo_142 P) (PySem.W.BT.node (qo_210 P) PySem.W.BT.nil PySem.W.BT.nil) (PySem.W.BT.node (qo_276 P) PySem.W.BT.nil PySem.W.BT.nil))) (PySem.W.BT.node (qo_90 P) (PySem.W.BT.node (qo_126 P) (PySem.W.BT.node (qo_194 P) PySem.W.BT.nil PySem.W.BT.nil) (PySem.W.BT.node (qo_260 P) PySem.W.BT.nil PySem.W.BT.nil)) (PySem.W.BT.node (qo_162 P) (PySem.W.BT.node (qo_226 P) PySem.W.BT.nil PySem.W.BT.nil) (PySem.W.BT.node (qo_292 P) PySem.W.BT.nil PySem.W.BT.nil)))) (PySem.W.BT.node (qo_63 P) (PySem.W.BT.node (qo_82 P) (PySem.W.BT.node (qo_118 P) (PySem.W.BT.node (qo_186 P) (PySem.W.BT.node (qo_316 P) PySem.W.BT.nil PySem.W.BT.nil) PySem.W.BT.nil) (PySem.W.BT.node (qo_252 P) PySem.W.BT.nil PySem.W.BT.nil)) (PySem.W.BT.node (qo_150 P) (PySem.W.BT.node (qo_218 P) PySem.W.BT.nil PySem.W.BT.nil) (PySem.W.BT.node (qo_284 P) PySem.W.BT.nil PySem.W.BT.nil))) (PySem.W.BT.node (qo_102 P) (PySem.W.BT.node (qo_134 P) (PySem.W.BT.node (qo_202 P) PySem.W.BT.nil PySem.W.BT.nil) (PySem.W.BT.node (qo_268 P) PySem.W.BT.nil PySem.W.BT.nil)) (PySem.W.BT.node (qo_170 P) (PySem.W.BT.node (qo_234 P) PySem.W.BT.nil PySem.W.BT.nil) (PySem.W.BT.node (qo_300 P) PySem.W.BT.nil PySem.W.BT.nil))))) (PySem.W.BT.node (qo_46 P) (PySem.W.BT.node (qo_59 P) (PySem.W.BT.node (qo_78 P) (PySem.W.BT.node (qo_114 P) (PySem.W.BT.node (qo_182 P) (PySem.W.BT.node (qo_312 P) PySem.W.BT.nil PySem.W.BT.nil) PySem.W.BT.nil) (PySem.W.BT.node (qo_248 P) PySem.W.BT.nil PySem.W.BT.nil)) (PySem.W.BT.node (qo_146 P) (PySem.W.BT.node (qo_214 P) PySem.W.BT.nil PySem.W.BT.nil) (PySem.W.BT.node (qo_280 P) PySem.W.BT.nil PySem.W.BT.nil))) (PySem.W.BT.node (qo_94 P) (PySem.W.BT.node (qo_130 P) (PySem.W.BT.node (qo_198 P) PySem.W.BT.nil PySem.W.BT.nil) (PySem.W.BT.node (qo_264 P) PySem.W.BT.nil PySem.W.BT.nil)) (PySem.W.BT.node (qo_166 P) (PySem.W.BT.node (qo_230 P) PySem.W.BT.nil PySem.W.BT.nil) (PySem.W.BT.node (qo_296 P) PySem.W.BT.nil PySem.W.BT.nil)))) (PySem.W.BT.node (qo_67 P) (PySem.W.BT.node (qo_86 P) (PySem.W.BT.node (qo_122 P) (PySem.W.BT.node (qo_190 P) (PySem.W.BT.node (qo_320 P) PySem.W.BT.nil PySem.W.BT.nil) PySem.W.BT.nil) (PySem.W.BT.node (qo_256 P) PySem.W.BT.nil PySem.W.BT.nil)) (PySem.W.BT.node (qo_154 P) (PySem.W.BT.node (qo_222 P) PySem.W.BT.nil PySem.W.BT.nil) (PySem.W.BT.node (qo_288 P) PySem.W.BT.nil PySem.W.BT.nil))) (PySem.W.BT.node (qo_106 P) (PySem.W.BT.node (qo_138 P) (PySem.W.BT.node (qo_206 P) PySem.W.BT.nil PySem.W.BT.nil) (PySem.W.BT.node (qo_272 P) PySem.W.BT.nil PySem.W.BT.nil)) (PySem.W.BT.node (qo_174 P) (PySem.W.BT.node (qo_240 P) PySem.W.BT.nil PySem.W.BT.nil) (PySem.W.BT.node (qo_304 P) PySem.W.BT.nil PySem.W.BT.nil))))))))
noncomputable def qtree_381 (P : Params) : BT := (PySem.W.BT.node (PySem.W.boot_o_0 P) (PySem.W.BT.node (PySem.W.boot_o_1 P) (PySem.W.BT.node (qo_323 P) (PySem.W.BT.node (PySem.W.boot_o_7 P) (PySem.W.BT.node (qo_52 P) (PySem.W.BT.node (qo_74 P) (PySem.W.BT.node (qo_107 P) (PySem.W.BT.node (qo_175 P) (PySem.W.BT.node (qo_305 P) PySem.W.BT.nil PySem.W.BT.nil) PySem.W.BT.nil) (PySem.W.BT.node (qo_241 P) (PySem.W.BT.node (qo_371 P) PySem.W.BT.nil PySem.W.BT.nil) PySem.W.BT.nil)) (PySem.W.BT.node (qo_139 P) (PySem.W.BT.node (qo_207 P) (PySem.W.BT.node (qo_339 P) PySem.W.BT.nil PySem.W.BT.nil) PySem.W.BT.nil) (PySem.W.BT.node (qo_273 P) PySem.W.BT.nil PySem.W.BT.nil))) (PySem.W.BT.node (qo_87 P) (PySem.W.BT.node (qo_123 P) (PySem.W.BT.node (qo_191 P) (PySem.W.BT.node (qo_321 P) PySem.W.BT.nil PySem.W.BT.nil) PySem.W.BT.nil) (PySem.W.BT.node (qo_257 P) PySem.W.BT.nil PySem.W.BT.nil)) (PySem.W.BT.node (qo_155 P) (PySem.W.BT.node (qo_223 P) (PySem.W.BT.node (qo_355 P) PySem.W.BT.nil PySem.W.BT.nil) PySem.W.BT.nil) (PySem.W.BT.node (qo_289 P) PySem.W.BT.nil PySem.W.BT.nil)))) (PySem.W.BT.node (qo_60 P) (PySem.W.BT.node (qo_79 P) (PySem.W.BT.node (qo_115 P) (PySem.W.BT.node (qo_183 P) (PySem.W.BT.node (qo_313 P) PySem.W.BT.nil PySem.W.BT.nil) PySem.W.BT.nil) (PySem.W.BT.node (qo_249 P) (PySem.W.BT.node (qo_379 P) PySem.W.BT.nil PySem.W.BT.nil) PySem.W.BT.nil)) (PySem.W.BT.node (qo_147 P) (PySem.W.BT.node (qo_215 P) (PySem.W.BT.node (qo_347 P) PySem.W.BT.nil PySem.W.BT.nil) PySem.W.BT.nil) (PySem.W.BT.node (qo_281 P) PySem.W.BT.nil PySem.W.BT.nil))) (PySem.W.BT.node (qo_99 P) (PySem.W.BT.node (qo_131 P) (PySem.W.BT.node (qo_199 P) (PySem.W.BT.node (qo_331 P) PySem.W.BT.nil PySem.W.BT.nil) PySem.W.BT.nil) (PySem.W.BT.node (qo_265 P) PySem.W.BT.nil PySem.W.BT.nil)) (PySem.W.BT.node (qo_167 P) (PySem.W.BT.node (qo_231 P) (PySem.W.BT.node (qo_363 P) PySem.W.BT.nil PySem.W.BT.nil) PySem.W.BT.nil) (PySem.W.BT.node (qo_297 P) PySem.W.BT.nil PySem.W.BT.nil))))) (PySem.W.BT.node (qo_43 P) (PySem.W.BT.node (qo_56 P) (PySem.W.BT.node (qo_75 P) (PySem.W.BT.node (qo_111 P) (PySem.W.BT.node (qo_179 P) (PySem.W.BT.node (qo_309 P) PySem.W.BT.nil PySem.W.BT.nil) PySem.W.BT.nil) (PySem.W.BT.node (qo_245 P) (PySem.W.BT.node (qo_375 P) PySem.W.BT.nil PySem.W.BT.nil) PySem.W.BT.nil)) (PySem.W.BT.node (qo_143 P) (PySem.W.BT.node (qo_211 P) (PySem.W.BT.node (qo_343 P) PySem.W.BT.nil PySem.W.BT.nil) PySem.W.BT.nil) (PySem.W.BT.node (qo_277 P) PySem.W.BT.nil PySem.W.BT.nil))) (PySem.W.BT.node (qo_91 P) (PySem.W.BT.node (qo_127 P) (PySem.W.BT.node (qo_195 P) (PySem.W.BT.node (qo_327 P) PySem.W.BT.nil PySem.W.BT.nil) PySem.W.BT.nil) (PySem.W.BT.node (qo_261 P) PySem.W.BT.nil PySem.W.BT.nil)) (PySem.W.BT.node (qo_163 P) (PySem.W.BT.node (qo_227 P) (PySem.W.BT.node (qo_359 P) PySem.W.BT.nil PySem.W.BT.nil) PySem.W.BT.nil) (PySem.W.BT.node (qo_293 P) PySem.W.BT.nil PySem.W.BT.nil)))) (PySem.W.BT.node (qo_64 P) (PySem.W.BT.node (qo_83 P) (PySem.W.BT.node (qo_119 P) (PySem.W.BT.node (qo_187 P) (PySem.W.BT.node (qo_317 P) PySem.W.BT.nil PySem.W.BT.nil) PySem.W.BT.nil) (PySem.W.BT.node (qo_253 P) PySem.W.BT.nil PySem.W.BT.nil)) (PySem.W.BT.node (qo_151 P) (PySem.W.BT.node (qo_219 P) (PySem.W.BT.node (qo_351 P) PySem.W.BT.nil PySem.W.BT.nil) PySem.W.BT.nil) (PySem.W.BT.node (qo_285 P) PySem.W.BT.nil PySem.W.BT.nil))) (PySem.W.BT.node (qo_103 P) (PySem.W.BT.node (qo_135 P) (PySem.W.BT.node (qo_203 P) (PySem.W.BT.node (qo_335 P) PySem.W.BT.nil PySem.W.BT.nil) PySem.W.BT.nil) (PySem.W.BT.node (qo_269 P) PySem.W.BT.nil PySem.W.BT.nil)) (PySem.W.BT.node (qo_171 P) (PySem.W.BT.node (qo_235 P) (PySem.W.BT.node (qo_367 P) PySem.W.BT.nil PySem.W.BT.nil) PySem.W.BT.nil) (PySem.W.BT.node (qo_301 P) PySem.W.BT.nil PySem.W.BT.nil)))))) (PySem.W.BT.node (PySem.W.boot_o_5 P) (PySem.W.BT.node (PySem.W.boot_o_9 P) (PySem.W.BT.node (qo_54 P) (PySem.W.BT.node (qo_70 P) (PySem.W.BT.node (qo_109 P) (PySem.W.BT.node (qo_177 P) (PySem.W.BT.node (qo_307 P) PySem.W.BT.nil PySem.W.BT.nil) PySem.W.BT.nil) (PySem.W.BT.node (qo_243 P) (PySem.W.BT.node (qo_373 P) PySem.W.BT.nil PySem.W.BT.nil) PySem.W.BT.nil)) (PySem.W.BT.node (qo_141 P) (PySem.W.BT.node (qo_209 P) (PySem.W.BT.node (qo_341 P) PySem.W.BT.nil PySem.W.BT.nil) PySem.W.BT.nil) (PySem.W.BT.node (qo_275 P) PySem.W.BT.nil PySem.W.BT.nil))) (PySem.W.BT.node (qo_89 P) (PySem.W.BT.node (qo_125 P) (PySem.W.BT.node (qo_193 P) (PySem.W.BT.node (qo_325 P) PySem.W.BT.nil PySem.W.BT.nil) PySem.W.BT.nil) (PySem.W.BT.node (qo_259 P) PySem.W.BT.nil PySem.W.BT.nil)) (PySem.W.BT.node (qo_161 P) (PySem.W.BT.node (qo_225 P) (PySem.W.BT.node (qo_357 P) PySem.W.BT.nil PySem.W.BT.nil) PySem.W.BT.nil) (PySem.W.BT.node (qo_291 P) PySem.W.BT.nil PySem.W.BT.nil)))) (PySem.W.BT.node (qo_62 P) (PySem.W.BT.node (qo_81 P) (PySem.W.BT.node (qo_117 P) (PySem.W.BT.node (qo_185 P) (PySem.W.BT.node (qo_315 P) PySem.W.BT.nil PySem.W.BT.nil) PySem.W.BT.nil) (PySem.W.BT.node (qo_251 P) (PySem.W.BT.node (qo_381 P) PySem.W.BT.nil PySem.W.BT.nil) PySem.W.BT.nil)) (PySem.W.BT.node (qo_149 P) (PySem.W.BT.node (qo_217 P) (PySem.W.BT.node (qo_349 P) PySem.W.BT.nil PySem.W.BT.nil) PySem.W.BT.nil) (PySem.W.BT.node (qo_283 P) PySem.W.BT.nil PySem.W.BT.nil))) (PySem.W.BT.node (qo_101 P) (PySem.W.BT.node (qo_133 P) (PySem.W.BT.node (qo_201 P) (PySem.W.BT.node (qo_333 P) PySem.W.BT.nil PySem.W.BT.nil) PySem.W.BT.nil) (PySem.W.BT.node (qo_267 P) PySem.W.BT.nil PySem.W.BT.nil)) (PySem.W.BT.node (qo_169 P) (PySem.W.BT.node (qo_233 P) (PySem.W.BT.node (qo_365 P) PySem.W.BT.nil PySem.W.BT.nil) PySem.W.BT.nil) (PySem.W.BT.node (qo_299 P) PySem.W.BT.nil PySem.W.BT.nil))))) (PySem.W.BT.node (qo_45 P) (PySem.W.BT.node (qo_58 P) (PySem.W.BT.node (qo_77 P) (PySem.W.BT.node (qo_113 P) (PySem.W.BT.node (qo_181 P) (PySem.W.BT.node (qo_311 P) PySem.W.BT.nil PySem.W.BT.nil) PySem.W.BT.nil) (PySem.W.BT.node (qo_247 P) (PySem.W.BT.node (qo_377 P) PySem.W.BT.nil PySem.W.BT.nil) PySem.W.BT.nil)) (PySem.W.BT.node (qo_145 P) (PySem.W.BT.node (qo_213 P) (PySem.W.BT.node (qo_345 P) PySem.W.BT.nil PySem.W.BT.nil) PySem.W.BT.nil) (PySem.W.BT.node (qo_279 P) PySem.W.BT.nil PySem.W.BT.nil))) (PySem.W.BT.node (qo_93 P) (PySem.W.BT.node (qo_129 P) (PySem.W.BT.node (qo_197 P) (PySem.W.BT.node (qo_329 P) PySem.W.BT.nil PySem.W.BT.nil) PySem.W.BT.nil) (PySem.W.BT.node (qo_263 P) PySem.W.BT.nil PySem.W.BT.nil)) (PySem.W.BT.node (qo_165 P) (PySem.W.BT.node (qo_229 P) (PySem.W.BT.node (qo_361 P) PySem.W.BT.nil PySem.W.BT.nil) PySem.W.BT.nil) (PySem.W.BT.node (qo_295 P) PySem.W.BT.nil PySem.W.BT.nil)))) (PySem.W.BT.node (qo_66 P) (PySem.W.BT.node (qo_85 P) (PySem.W.BT.node (qo_121 P) (PySem.W.BT.node (qo_189 P) (PySem.W.BT.node (qo_319 P) PySem.W.BT.nil PySem.W.BT.nil) PySem.W.BT.nil) (PySem.W.BT.node (qo_255 P) PySem.W.BT.nil PySem.W.BT.nil)) (PySem.W.BT.node (qo_153 P) (PySem.W.BT.node (qo_221 P) (PySem.W.BT.node (qo_353 P) PySem.W.BT.nil PySem.W.BT.nil) PySem.W.BT.nil) (PySem.W.BT.node (qo_287 P) PySem.W.BT.nil PySem.W.BT.nil))) (PySem.W.BT.node (qo_105 P) (PySem.W.BT.node (qo_137 P) (PySem.W.BT.node (qo_205 P) (PySem.W.BT.node (qo_337 P) PySem.W.BT.nil PySem.W.BT.nil) PySem.W.BT.nil) (PySem.W.BT.node (qo_271 P) PySem.W.BT.nil PySem.W.BT.nil)) (PySem.W.BT.node (qo_173 P) (PySem.W.BT.node (qo_239 P) (PySem.W.BT.node (qo_369 P) PySem.W.BT.nil PySem.W.BT.nil) PySem.W.BT.nil) (PySem.W.BT.node (qo_303 P) PySem.W.BT.nil PySem.W.BT.nil))))))) (PySem.W.BT.node (qo_49 P) (PySem.W.BT.node (PySem.W.boot_o_4 P) (PySem.W.BT.node (PySem.W.boot_o_8 P) (PySem.W.BT.node (qo_53 P) (PySem.W.BT.node (qo_69 P) (PySem.W.BT.node (qo_108 P) (PySem.W.BT.node (qo_176 P) (PySem.W.BT.node (qo_306 P) PySem.W.BT.nil PySem.W.BT.nil) PySem.W.BT.nil) (PySem.W.BT.node (qo_242 P) (PySem.W.BT.node (qo_372 P) PySem.W.BT.nil PySem.W.BT.nil) PySem.W.BT.nil)) (PySem.W.BT.node (qo_140 P) (PySem.W.BT.node (qo_208 P) (PySem.W.BT.node (qo_340 P) PySem.W.BT.nil PySem.W.BT.nil) PySem.W.BT.nil) (PySem.W.BT.node (qo_274 P) PySem.W.BT.nil PySem.W.BT.nil))) (PySem.W.BT.node (qo_88 P) (PySem.W.BT.node (qo_124 P) (PySem.W.BT.node (qo_192 P) (PySem.W.BT.node (qo_322 P) PySem.W.BT.nil PySem.W.BT.nil) PySem.W.BT.nil) (PySem.W.BT.node (qo_258 P) PySem.W.BT.nil PySem.W.BT.nil)) (PySem.W.BT.node (qo_160 P) (PySem.W.BT.node (qo_224 P) (PySem.W.BT.node (qo_356 P) PySem.W.BT.nil PySem.W.BT.nil) PySem.W.BT.nil) (PySem.W.BT.node (qo_290 P) PySem.W.BT.nil PySem.W.BT.nil)))) (PySem.W.BT.node (qo_61 P) (PySem.W.BT.node (qo_80 P) (PySem.W.BT.node (qo_116 P) (PySem.W.BT.node (qo_184 P) (PySem.W.BT.node (qo_314 P) PySem.W.BT.nil PySem.W.BT.nil) PySem.W.BT.nil) (PySem.W.BT.node (qo_250 P) (PySem.W.BT.node (qo_380 P) PySem.W.BT.nil PySem.W.BT.nil) PySem.W.BT.nil)) (PySem.W.BT.node (qo_148 P) (PySem.W.BT.node (qo_216 P) (PySem.W.BT.node (qo_348 P) PySem.W.BT.nil PySem.W.BT.nil) PySem.W.BT.nil) (PySem.W.BT.node (qo_282 P) PySem.W.BT.nil PySem.W.BT.nil))) (PySem.W.BT.node (qo_100 P) (PySem.W.BT.node (qo_132 P) (PySem.W.BT.node (qo_200 P) (PySem.W.BT.node (qo_332 P) PySem.W.BT.nil PySem.W.BT.nil) PySem.W.BT.nil) (PySem.W.BT.node (qo_266 P) PySem.W.BT.nil PySem.W.BT.nil)) (PySem.W.BT.node (qo_168 P) (PySem.W.BT.node (qo_232 P) (PySem.W.BT.node (qo_364 P) PySem.W.BT.nil PySem.W.BT.nil) PySem.W.BT.nil) (PySem.W.BT.node (qo_298 P) PySem.W.BT.nil PySem.W.BT.nil))))) (PySem.W.BT.node (qo_324 P) (PySem.W.BT.node (qo_57 P) (PySem.W.BT.node (qo_76 P) (PySem.W.BT.node (qo_112 P) (PySem.W.BT.node (qo_180 P) (PySem.W.BT.node (qo_310 P) PySem.W.BT.nil PySem.W.BT.nil) PySem.W.BT.nil) (PySem.W.BT.node (qo_246 P) (PySem.W.BT.node (qo_376 P) PySem.W.BT.nil PySem.W.BT.nil) PySem.W.BT.nil)) (PySem.W.BT.node (qo_144 P) (PySem.W.BT.node (qo_212 P) (PySem.W.BT.node (qo_344 P) PySem.W.BT.nil PySem.W.BT.nil) PySem.W.BT.nil) (PySem.W.BT.node (qo_278 P) PySem.W.BT.nil PySem.W.BT.nil))) (PySem.W.BT.node (qo_92 P) (PySem.W.BT.node (qo_128 P) (PySem.W.BT.node (qo_196 P) (PySem.W.BT.node (qo_328 P) PySem.W.BT.nil PySem.W.BT.nil) PySem.W.BT.nil) (PySem.W.BT.node (qo_262 P) PySem.W.BT.nil PySem.W.BT.nil)) (PySem.W.BT.node (qo_164 P) (PySem.W.BT.node (qo_228 P) (PySem.W.BT.node (qo_360 P) PySem.W.BT.nil PySem.W.BT.nil) PySem.W.BT.nil) (PySem.W.BT.node (qo_294 P) PySem.W.BT.nil PySem.W.BT.nil)))) (PySem.W.BT.node (qo_65 P) (PySem.W.BT.node (qo_84 P) (PySem.W.BT.node (qo_120 P) (PySem.W.BT.node (qo_188 P) (PySem.W.BT.node (qo_318 P) PySem.W.BT.nil PySem.W.BT.nil) PySem.W.BT.nil) (PySem.W.BT.node (qo_254 P) PySem.W.BT.nil PySem.W.BT.nil)) (PySem.W.BT.node (qo_152 P) (PySem.W.BT.node (qo_220 P) (PySem.W.BT.node (qo_352 P) PySem.W.BT.nil PySem.W.BT.nil) PySem.W.BT.nil) (PySem.W.BT.node (qo_286 P) PySem.W.BT.nil PySem.W.BT.nil))) (PySem.W.BT.node (qo_104 P) (PySem.W.BT.node (qo_136 P) (PySem.W.BT.node (qo_204 P) (PySem.W.BT.node (qo_336 P) PySem.W.BT.nil PySem.W.BT.nil) PySem.W.BT.nil) (PySem.W.BT.node (qo_270 P) PySem.W.BT.nil PySem.W.BT.nil)) (PySem.W.BT.node (qo_172 P) (PySem.W.BT.node (qo_236 P) (PySem.W.BT.node (qo_368 P) PySem.W.BT.nil PySem.W.BT.nil) PySem.W.BT.nil) (PySem.W.BT.node (qo_302 P) PySem.W.BT.nil PySem.W.BT.nil)))))) (PySem.W.BT.node (PySem.W.boot_o_6 P) (PySem.W.BT.node (PySem.W.boot_o_10 P) (PySem.W.BT.node (qo_55 P) (PySem.W.BT.node (qo_71 P) (PySem.W.BT.node (qo_110 P) (PySem.W.BT.node (qo_178 P) (PySem.W.BT.node (qo_308 P) PySem.W.BT.nil PySem.W.BT.nil) PySem.W.BT.nil) (PySem.W.BT.node (qo_244 P) (PySem.W.BT.node (qo_374 P) PySem.W.BT.nil PySem.W.BT.nil) PySem.W.BT.nil)) (PySem.W.BT.node (qo_142 P) (PySem.W.BT.node (qo_210 P) (PySem.W.BT.node (qo_342 P) PySem.W.BT.nil PySem.W.BT.nil) PySem.W.BT.nil) (PySem.W.BT.node (qo_276 P) PySem.W.BT.nil PySem.W.BT.nil))) (PySem.W.BT.node (qo_90 P) (PySem.W.BT.node (qo_126 P) (PySem.W.BT.node (qo_194 P) (PySem.W.BT.node (qo_326 P) PySem.W.BT.nil PySem.W.BT.nil) PySem.W.BT.nil) (PySem.W.BT.node (qo_260 P) PySem.W.BT.nil PySem.W.BT.nil)) (PySem.W.BT.node (qo_162 P) (PySem.W.BT.node (qo_226 P) (PySem.W.BT.node (qo_358 P) PySem.W.BT.nil PySem.W.BT.nil) PySem.W.BT.nil) (PySem.W.BT.node (qo_292 P) PySem.W.BT.nil PySem.W.BT.nil)))) (PySem.W.BT.node (qo_63 P) (PySem.W.BT.node (qo_82 P) (PySem.W.BT.node (qo_118 P) (PySem.W.BT.node (qo_186 P) (PySem.W.BT.node (qo_316 P) PySem.W.BT.nil PySem.W.BT.nil) PySem.W.BT.nil) (PySem.W.BT.node (qo_252 P) PySem.W.BT.nil PySem.W.BT.nil)) (PySem.W.BT.node (qo_150 P) (PySem.W.BT.node (qo_218 P) (PySem.W.BT.node (qo_350 P) PySem.W.BT.nil PySem.W.BT.nil) PySem.W.BT.nil) (PySem.W.BT.node (qo_284 P) PySem.W.BT.nil PySem.W.BT.nil))) (PySem.W.BT.node (qo_102 P) (PySem.W.BT.node (qo_134 P) (PySem.W.BT.node (qo_202 P) (PySem.W.BT.node (qo_334 P) PySem.W.BT.nil PySem.W.BT.nil) PySem.W.BT.nil) (PySem.W.BT.node (qo_268 P) PySem.W.BT.nil PySem.W.BT.nil)) (PySem.W.BT.node (qo_170 P) (PySem.W.BT.node (qo_234 P) (PySem.W.BT.node (qo_366 P) PySem.W.BT.nil PySem.W.BT.nil) PySem.W.BT.nil) (PySem.W.BT.node (qo_300 P) PySem.W.BT.nil PySem.W.BT.nil))))) (PySem.W.BT.node (qo_46 P) (PySem.W.BT.node (qo_59 P) (PySem.W.BT.node (qo_78 P) (PySem.W.BT.node (qo_114 P) (PySem.W.BT.node (qo_182 P) (PySem.W.BT.node (qo_312 P) PySem.W.BT.nil PySem.W.BT.nil) PySem.W.BT.nil) (PySem.W.BT.node (qo_248 P) (PySem.W.BT.node (qo_378 P) PySem.W.BT.nil PySem.W.BT.nil) PySem.W.BT.nil)) (PySem.W.BT.node (qo_146 P) (PySem.W.BT.node (qo_214 P) (PySem.W.BT.node (qo_346 P) PySem.W.BT.nil PySem.W.BT.nil) PySem.W.BT.nil) (PySem.W.BT.node (qo_280 P) PySem.W.BT.nil PySem.W.BT.nil))) (PySem.W.BT.node (qo_94 P) (PySem.W.BT.node (qo_130 P) (PySem.W.BT.node (qo_198 P) (PySem.W.BT.node (qo_330 P) PySem.W.BT.nil PySem.W.BT.nil) PySem.W.BT.nil) (PySem.W.BT.node (qo_264 P) PySem.W.BT.nil PySem.W.BT.nil)) (PySem.W.BT.node (qo_166 P) (PySem.W.BT.node (qo_230 P) (PySem.W.BT.node (qo_362 P) PySem.W.BT.nil PySem.W.BT.nil) PySem.W.BT.nil) (PySem.W.BT.node (qo_296 P) PySem.W.BT.nil PySem.W.BT.nil)))) (PySem.W.BT.node (qo_67 P) (PySem.W.BT.node (qo_86 P) (PySem.W.BT.node (qo_122 P) (PySem.W.BT.node (qo_190 P) (PySem.W.BT.node (qo_320 P) PySem.W.BT.nil PySem.W.BT.nil) PySem.W.BT.nil) (PySem.W.BT.node (qo_256 P) PySem.W.BT.nil PySem.W.BT.nil)) (PySem.W.BT.node (qo_154 P) (PySem.W.BT.node (qo_222 P) (PySem.W.BT.node (qo_354 P) PySem.W.BT.nil PySem.W.BT.nil) PySem.W.BT.nil) (PySem.W.BT.node (qo_288 P) PySem.W.BT.nil PySem.W.BT.nil))) (PySem.W.BT.node (qo_106 P) (PySem.W.BT.node (qo_138 P) (PySem.W.BT.node (qo_206 P) (PySem.W.BT.node (qo_338 P) PySem.W.BT.nil PySem.W.BT.nil) PySem.W.BT.nil) (PySem.W.BT.node (qo_272 P) PySem.W.BT.nil PySem.W.BT.nil)) (PySem.W.BT.node (qo_174 P) (PySem.W.BT.node (qo_240 P) (PySem.W.BT.node (qo_370 P) PySem.W.BT.nil PySem.W.BT.nil) PySem.W.BT.nil) (PySem.W.BT.node (qo_304 P) PySem.W.BT.nil PySem.W.BT.nil))))))))
noncomputable def qtree_390 (P : Params) : BT := (PySem.W.BT.node (PySem.W.boot_o_0 P) (PySem.W.BT.node (PySem.W.boot_o_1 P) (PySem.W.BT.node (qo_384 P) (PySem.W.BT.node (PySem.W.boot_o_7 P) (PySem.W.BT.node (qo_52 P) (PySem.W.BT.node (qo_74 P) (PySem.W.BT.node (qo_107 P) (PySem.W.BT.node (qo_175 P) (PySem.W.BT.node (qo_305 P) PySem.W.BT.nil PySem.W.BT.nil) PySem.W.BT.nil) (PySem.W.BT.node (qo_241 P) (PySem.W.BT.node (qo_371 P) PySem.W.BT.nil PySem.W.BT.nil) PySem.W.BT.nil)) (PySem.W.BT.node (qo_139 P) (PySem.W.BT.node (qo_207 P) (PySem.W.BT.node (qo_339 P) PySem.W.BT.nil PySem.W.BT.nil) PySem.W.BT.nil) (PySem.W.BT.node (qo_273 P) PySem.W.BT.nil PySem.W.BT.nil))) (PySem.W.BT.node (qo_87 P) (PySem.W.BT.node (qo_123 P) (PySem.W.BT.node (qo_191 P) (PySem.W.BT.node (qo_321 P) PySem.W.BT.nil PySem.W.BT.nil) PySem.W.BT.nil) (PySem.W.BT.node (qo_257 P) PySem.W.BT.nil PySem.W.BT.nil)) (PySem.W.BT.node (qo_155 P) (PySem.W.BT.node (qo_223 P) (PySem.W.BT.node (qo_355 P) PySem.W.BT.nil PySem.W.BT.nil) PySem.W.BT.nil) (PySem.W.BT.node (qo_289 P) PySem.W.BT.nil PySem.W.BT.nil)))) (PySem.W.BT.node (qo_60 P) (PySem.W.BT.node (qo_79 P) (PySem.W.BT.node (qo_115 P) (PySem.W.BT.node (qo_183 P) (PySem.W.BT.node (qo_313 P) PySem.W.BT.nil PySem.W.BT.nil) PySem.W.BT.nil) (PySem.W.BT.node (qo_249 P) (PySem.W.BT.node (qo_379 P) PySem.W.BT.nil PySem.W.BT.nil) PySem.W.BT.nil)) (PySem.W.BT.node (qo_147 P) (PySem.W.BT.node (qo_215 P) (PySem.W.BT.node (qo_347 P) PySem.W.BT.nil PySem.W.BT.nil) PySem.W.BT.nil) (PySem.W.BT.node (qo_281 P) PySem.W.BT.nil PySem.W.BT.nil))) (PySem.W.BT.node (qo_99 P) (PySem.W.BT.node (qo_131 P) (PySem.W.BT.node (qo_199 P) (PySem.W.BT.node (qo_331 P) PySem.W.BT.nil PySem.W.BT.nil) PySem.W.BT.nil) (PySem.W.BT.node (qo_265 P) PySem.W.BT.nil PySem.W.BT.nil)) (PySem.W.BT.node (qo_167 P) (PySem.W.BT.node (qo_231 P) (PySem.W.BT.node (qo_363 P) PySem.W.BT.nil PySem.W.BT.nil) PySem.W.BT.nil) (PySem.W.BT.node (qo_297 P) PySem.W.BT.nil PySem.W.BT.nil))))) (PySem.W.BT.node (qo_43 P) (PySem.W.BT.node (qo_56 P) (PySem.W.BT.node (qo_75 P) (PySem.W.BT.node (qo_111 P) (PySem.W.BT.node (qo_179 P) (PySem.W.BT.node (qo_309 P) PySem.W.BT.nil PySem.W.BT.nil) PySem.W.BT.nil) (PySem.W.BT.node (qo_245 P) (PySem.W.BT.node (qo_375 P) PySem.W.BT.nil PySem.W.BT.nil) PySem.W.BT.nil)) (PySem.W.BT.node (qo_143 P) (PySem.W.BT.node (qo_211 P) (PySem.W.BT.node (qo_343 P) PySem.W.BT.nil PySem.W.BT.nil) PySem.W.BT.nil) (PySem.W.BT.node (qo_277 P) PySem.W.BT.nil PySem.W.BT.nil))) (PySem.W.BT.node (qo_91 P) (PySem.W.BT.node (qo_127 P) (PySem.W.BT.node (qo_195 P) (PySem.W.BT.node (qo_327 P) PySem.W.BT.nil PySem.W.BT.nil) PySem.W.BT.nil) (PySem.W.BT.node (qo_261 P) PySem.W.BT.nil PySem.W.BT.nil)) (PySem.W.BT.node (qo_163 P) (PySem.W.BT.node (qo_227 P) (PySem.W.BT.node (qo_359 P) PySem.W.BT.nil PySem.W.BT.nil) PySem.W.BT.nil) (PySem.W.BT.node (qo_293 P) PySem.W.BT.nil PySem.W.BT.nil)))) (PySem.W.BT.node (qo_64 P) (PySem.W.BT.node (qo_83 P) (PySem.W.BT.node (qo_119 P) (PySem.W.BT.node (qo_187 P) (PySem.W.BT.node (qo_317 P) PySem.W.BT.nil PySem.W.BT.nil) PySem.W.BT.nil) (PySem.W.BT.node (qo_253 P) (PySem.W.BT.node (qo_387 P) PySem.W.BT.nil PySem.W.BT.nil) PySem.W.BT.nil)) (PySem.W.BT.node (qo_151 P) (PySem.W.BT.node (qo_219 P) (PySem.W.BT.node (qo_351 P) PySem.W.BT.nil PySem.W.BT.nil) PySem.W.BT.nil) (PySem.W.BT.node (qo_285 P) PySem.W.BT.nil PySem.W.BT.nil))) (PySem.W.BT.node (qo_103 P) (PySem.W.BT.node (qo_135 P) (PySem.W.BT.node (qo_203 P) (PySem.W.BT.node (qo_335 P) PySem.W.BT.nil PySem.W.BT.nil) PySem.W.BT.nil) (PySem.W.BT.node (qo_269 P) PySem.W.BT.nil PySem.W.BT.nil)) (PySem.W.BT.node (qo_171 P) (PySem.W.BT.node (qo_235 P) (PySem.W.BT.node (qo_367 P) PySem.W.BT.nil PySem.W.BT.nil) PySem.W.BT.nil) (PySem.W.BT.node (qo_301 P) PySem.W.BT.nil PySem.W.BT.nil)))))) (PySem.W.BT.node (PySem.W.boot_o_5 P) (PySem.W.BT.node (PySem.W.boot_o_9 P) (PySem.W.BT.node (qo_54 P) (PySem.W.BT.node (qo_70 P) (PySem.W.BT.node (qo_109 P) (PySem.W.BT.node (qo_177 P) (PySem.W.BT.node (qo_307 P) PySem.W.BT.nil PySem.W.BT.nil) PySem.W.BT.nil) (PySem.W.BT.node (qo_243 P) (PySem.W.BT.node (qo_373 P) PySem.W.BT.nil PySem.W.BT.nil) PySem.W.BT.nil)) (PySem.W.BT.node (qo_141 P) (PySem.W.BT.node (qo_209 P) (PySem.W.BT.node (qo_341 P) PySem.W.BT.nil PySem.W.BT.nil) PySem.W.BT.nil) (PySem.W.BT.node (qo_275 P) PySem.W.BT.nil PySem.W.BT.nil))) (PySem.W.BT.node (qo_89 P) (PySem.W.BT.node (qo_125 P) (PySem.W.BT.node (qo_193 P) (PySem.W.BT.node (qo_325 P) PySem.W.BT.nil PySem.W.BT.nil) PySem.W.BT.nil) (PySem.W.BT.node (qo_259 P) PySem.W.BT.nil PySem.W.BT.nil)) (PySem.W.BT.node (qo_161 P) (PySem.W.BT.node (qo_225 P) (PySem.W.BT.node (qo_357 P) PySem.W.BT.nil PySem.W.BT.nil) PySem.W.BT.nil) (PySem.W.BT.node (qo_291 P) PySem.W.BT.nil PySem.W.BT.nil)))) (PySem.W.BT.node (qo_62 P) (PySem.W.BT.node (qo_81 P) (PySem.W.BT.node (qo_117 P) (PySem.W.BT.node (qo_185 P) (PySem.W.BT.node (qo_315 P) PySem.W.BT.nil PySem.W.BT.nil) PySem.W.BT.nil) (PySem.W.BT.node (qo_251 P) (PySem.W.BT.node (qo_381 P) PySem.W.BT.nil PySem.W.BT.nil) PySem.W.BT.nil)) (PySem.W.BT.node (qo_149 P) (PySem.W.BT.node (qo_217 P) (PySem.W.BT.node (qo_349 P) PySem.W.BT.nil PySem.W.BT.nil) PySem.W.BT.nil) (PySem.W.BT.node (qo_283 P) PySem.W.BT.nil PySem.W.BT.nil))) (PySem.W.BT.node (qo_101 P) (PySem.W.BT.node (qo_133 P) (PySem.W.BT.node (qo_201 P) (PySem.W.BT.node (qo_333 P) PySem.W.BT.nil PySem.W.BT.nil) PySem.W.BT.nil) (PySem.W.BT.node (qo_267 P) PySem.W.BT.nil PySem.W.BT.nil)) (PySem.W.BT.node (qo_169 P) (PySem.W.BT.node (qo_233 P) (PySem.W.BT.node (qo_365 P) PySem.W.BT.nil PySem.W.BT.nil) PySem.W.BT.nil) (PySem.W.BT.node (qo_299 P) PySem.W.BT.nil PySem.W.BT.nil))))) (PySem.W.BT.node (qo_45 P) (PySem.W.BT.node (qo_58 P) (PySem.W.BT.node (qo_77 P) (PySem.W.BT.node (qo_113 P) (PySem.W.BT.node (qo_181 P) (PySem.W.BT.node (qo_311 P) PySem.W.BT.nil PySem.W.BT.nil) PySem.W.BT.nil) (PySem.W.BT.node (qo_247 P) (PySem.W.BT.node (qo_377 P) PySem.W.BT.nil PySem.W.BT.nil) PySem.W.BT.nil)) (PySem.W.BT.node (qo_145 P) (PySem.W.BT.node (qo_213 P) (PySem.W.BT.node (qo_345 P) PySem.W.BT.nil PySem.W.BT.nil) PySem.W.BT.nil) (PySem.W.BT.node (qo_279 P) PySem.W.BT.nil PySem.W.BT.nil))) (PySem.W.BT.node (qo_93 P) (PySem.W.BT.node (qo_129 P) (PySem.W.BT.node (qo_197 P) (PySem.W.BT.node (qo_329 P) PySem.W.BT.nil PySem.W.BT.nil) PySem.W.BT.nil) (PySem.W.BT.node (qo_263 P) PySem.W.BT.nil PySem.W.BT.nil)) (PySem.W.BT.node (qo_165 P) (PySem.W.BT.node (qo_229 P) (PySem.W.BT.node (qo_361 P) PySem.W.BT.nil PySem.W.BT.nil) PySem.W.BT.nil) (PySem.W.BT.node (qo_295 P) PySem.W.BT.nil PySem.W.BT.nil)))) (PySem.W.BT.node (qo_66 P) (PySem.W.BT.node (qo_85 P) (PySem.W.BT.node (qo_121 P) (PySem.W.BT.node (qo_189 P) (PySem.W.BT.node (qo_319 P) PySem.W.BT.nil PySem.W.BT.nil) PySem.W.BT.nil) (PySem.W.BT.node (qo_255 P) (PySem.W.BT.node (qo_389 P) PySem.W.BT.nil PySem.W.BT.nil) PySem.W.BT.nil)) (PySem.W.BT.node (qo_153 P) (PySem.W.BT.node (qo_221 P) (PySem.W.BT.node (qo_353 P) PySem.W.BT.nil PySem.W.BT.nil) PySem.W.BT.nil) (PySem.W.BT.node (qo_287 P) PySem.W.BT.nil PySem.W.BT.nil))) (PySem.W.BT.node (qo_105 P) (PySem.W.BT.node (qo_137 P) (PySem.W.BT.node (qo_205 P) (PySem.W.BT.node (qo_337 P) PySem.W.BT.nil PySem.W.BT.nil) PySem.W.BT.nil) (PySem.W.BT.node (qo_271 P) PySem.W.BT.nil PySem.W.BT.nil)) (PySem.W.BT.node (qo_173 P) (PySem.W.BT.node (qo_239 P) (PySem.W.BT.node (qo_369 P) PySem.W.BT.nil PySem.W.BT.nil) PySem.W.BT.nil) (PySem.W.BT.node (qo_303 P) PySem.W.BT.nil PySem.W.BT.nil))))))) (PySem.W.BT.node (qo_49 P) (PySem.W.BT.node (PySem.W.boot_o_4 P) (PySem.W.BT.node (PySem.W.boot_o_8 P) (PySem.W.BT.node (qo_53 P) (PySem.W.BT.node (qo_69 P) (PySem.W.BT.node (qo_108 P) (PySem.W.BT.node (qo_176 P) (PySem.W.BT.node (qo_306 P) PySem.W.BT.nil PySem.W.BT.nil) PySem.W.BT.nil) (PySem.W.BT.node (qo_242 P) (PySem.W.BT.node (qo_372 P) PySem.W.BT.nil PySem.W.BT.nil) PySem.W.BT.nil)) (PySem.W.BT.node (qo_140 P) (PySem.W.BT.node (qo_208 P) (PySem.W.BT.node (qo_340 P) PySem.W.BT.nil PySem.W.BT.nil) PySem.W.BT.nil) (PySem.W.BT.node (qo_274 P) PySem.W.BT.nil PySem.W.BT.nil))) (PySem.W.BT.node (qo_88 P) (PySem.W.BT.node (qo_124 P) (PySem.W.BT.node (qo_192 P) (PySem.W.BT.node (qo_322 P) PySem.W.BT.nil PySem.W.BT.nil) PySem.W.BT.nil) (PySem.W.BT.node (qo_258 P) PySem.W.BT.nil PySem.W.BT.nil)) (PySem.W.BT.node (qo_160 P) (PySem.W.BT.node (qo_224 P) (PySem.W.BT.node (qo_356 P) PySem.W.BT.nil PySem.W.BT.nil) PySem.W.BT.nil) (PySem.W.BT.node (qo_290 P) PySem.W.BT.nil PySem.W.BT.nil)))) (PySem.W.BT.node (qo_61 P) (PySem.W.BT.node (qo_80 P) (PySem.W.BT.node (qo_116 P) (PySem.W.BT.node (qo_184 P) (PySem.W.BT.node (qo_314 P) PySem.W.BT.nil PySem.W.BT.nil) PySem.W.BT.nil) (PySem.W.BT.node (qo_250 P) (PySem.W.BT.node (qo_380 P) PySem.W.BT.nil PySem.W.BT.nil) PySem.W.BT.nil)) (PySem.W.BT.node (qo_148 P) (PySem.W.BT.node (qo_216 P) (PySem.W.BT.node (qo_348 P) PySem.W.BT.nil PySem.W.BT.nil) PySem.W.BT.nil) (PySem.W.BT.node (qo_282 P) PySem.W.BT.nil PySem.W.BT.nil))) (PySem.W.BT.node (qo_100 P) (PySem.W.BT.node (qo_132 P) (PySem.W.BT.node (qo_200 P) (PySem.W.BT.node (qo_332 P) PySem.W.BT.nil PySem.W.BT.nil) PySem.W.BT.nil) (PySem.W.BT.node (qo_266 P) PySem.W.BT.nil PySem.W.BT.nil)) (PySem.W.BT.node (qo_168 P) (PySem.W.BT.node (qo_232 P) (PySem.W.BT.node (qo_364 P) PySem.W.BT.nil PySem.W.BT.nil) PySem.W.BT.nil) (PySem.W.BT.node (qo_298 P) PySem.W.BT.nil PySem.W.BT.nil))))) (PySem.W.BT.node (qo_385 P) (PySem.W.BT.node (qo_57 P) (PySem.W.BT.node (qo_76 P) (PySem.W.BT.node (qo_112 P) (PySem.W.BT.node (qo_180 P) (PySem.W.BT.node (qo_310 P) PySem.W.BT.nil PySem.W.BT.nil) PySem.W.BT.nil) (PySem.W.BT.node (qo_246 P) (PySem.W.BT.node (qo_376 P) PySem.W.BT.nil PySem.W.BT.nil) PySem.W.BT.nil)) (PySem.W.BT.node (qo_144 P) (PySem.W.BT.node (qo_212 P) (PySem.W.BT.node (qo_344 P) PySem.W.BT.nil PySem.W.BT.nil) PySem.W.BT.nil) (PySem.W.BT.node (qo_278 P) PySem.W.BT.nil PySem.W.BT.nil))) (PySem.W.BT.node (qo_92 P) (PySem.W.BT.node (qo_128 P) (PySem.W.BT.node (qo_196 P) (PySem.W.BT.node (qo_328 P) PySem.W.BT.nil PySem.W.BT.nil) PySem.W.BT.nil) (PySem.W.BT.node (qo_262 P) PySem.W.BT.nil PySem.W.BT.nil)) (PySem.W.BT.node (qo_164 P) (PySem.W.BT.node (qo_228 P) (PySem.W.BT.node (qo_360 P) PySem.W.BT.nil PySem.W.BT.nil) PySem.W.BT.nil) (PySem.W.BT.node (qo_294 P) PySem.W.BT.nil PySem.W.BT.nil)))) (PySem.W.BT.node (qo_65 P) (PySem.W.BT.node (qo_84 P) (PySem.W.BT.node (qo_120 P) (PySem.W.BT.node (qo_188 P) (PySem.W.BT.node (qo_318 P) PySem.W.BT.nil PySem.W.BT.nil) PySem.W.BT.nil) (PySem.W.BT.node (qo_254 P) (PySem.W.BT.node (qo_388 P) PySem.W.BT.nil PySem.W.BT.nil) PySem.W.BT.nil)) (PySem.W.BT.node (qo_152 P) (PySem.W.BT.node (qo_220 P) (PySem.W.BT.node (qo_352 P) PySem.W.BT.nil PySem.W.BT.nil) PySem.W.BT.nil) (PySem.W.BT.node (qo_286 P) PySem.W.BT.nil PySem.W.BT.nil))) (PySem.W.BT.node (qo_104 P) (PySem.W.BT.node (qo_136 P) (PySem.W.BT.node (qo_204 P) (PySem.W.BT.node (qo_336 P) PySem.W.BT.nil PySem.W.BT.nil) PySem.W.BT.nil) (PySem.W.BT.node (qo_270 P) PySem.W.BT.nil PySem.W.BT.nil)) (PySem.W.BT.node (qo_172 P) (PySem.W.BT.node (qo_236 P) (PySem.W.BT.node (qo_368 P) PySem.W.BT.nil PySem.W.BT.nil) PySem.W.BT.nil) (PySem.W.BT.node (qo_302 P) PySem.W.BT.nil PySem.W.BT.nil)))))) (PySem.W.BT.node (PySem.W.boot_o_6 P) (PySem.W.BT.node (PySem.W.boot_o_10 P) (PySem.W.BT.node (qo_55 P) (PySem.W.BT.node (qo_71 P) (PySem.W.BT.node (qo_110 P) (PySem.W.BT.node (qo_178 P) (PySem.W.BT.node (qo_308 P) PySem.W.BT.nil PySem.W.BT.nil) PySem.W.BT.nil) (PySem.W.BT.node (qo_244 P) (PySem.W.BT.node (qo_374 P) PySem.W.BT.nil PySem.W.BT.nil) PySem.W.BT.nil)) (PySem.W.BT.node (qo_142 P) (PySem.W.BT.node (qo_210 P) (PySem.W.BT.node (qo_342 P) PySem.W.BT.nil PySem.W.BT.nil) PySem.W.BT.nil) (PySem.W.BT.node (qo_276 P) PySem.W.BT.nil PySem.W.BT.nil))) (PySem.W.BT.node (qo_90 P) (PySem.W.BT.node (qo_126 P) (PySem.W.BT.node (qo_194 P) (PySem.W.BT.node (qo_326 P) PySem.W.BT.nil PySem.W.BT.nil) PySem.W.BT.nil) (PySem.W.BT.node (qo_260 P) PySem.W.BT.nil PySem.W.BT.nil)) (PySem.W.BT.node (qo_162 P) (PySem.W.BT.node (qo_226 P) (PySem.W.BT.node (qo_358 P) PySem.W.BT.nil PySem.W.BT.nil) PySem.W.BT.nil) (PySem.W.BT.node (qo_292 P) PySem.W.BT.nil PySem.W.BT.nil)))) (PySem.W.BT.node (qo_63 P) (PySem.W.BT.node (qo_82 P) (PySem.W.BT.node (qo_118 P) (PySem.W.BT.node (qo_186 P) (PySem.W.BT.node (qo_316 P) PySem.W.BT.nil PySem.W.BT.nil) PySem.W.BT.nil) (PySem.W.BT.node (qo_252 P) (PySem.W.BT.node (qo_386 P) PySem.W.BT.nil PySem.W.BT.nil) PySem.W.BT.nil)) (PySem.W.BT.node (qo_150 P) (PySem.W.BT.node (qo_218 P) (PySem.W.BT.node (qo_350 P) PySem.W.BT.nil PySem.W.BT.nil) PySem.W.BT.nil) (PySem.W.BT.node (qo_284 P) PySem.W.BT.nil PySem.W.BT.nil))) (PySem.W.BT.node (qo_102 P) (PySem.W.BT.node (qo_134 P) (PySem.W.BT.node (qo_202 P) (PySem.W.BT.node (qo_334 P) PySem.W.BT.nil PySem.W.BT.nil) PySem.W.BT.nil) (PySem.W.BT.node (qo_268 P) PySem.W.BT.nil PySem.W.BT.nil)) (PySem.W.BT.node (qo_170 P) (PySem.W.BT.node (qo_234 P) (PySem.W.BT.node (qo_366 P) PySem.W.BT.nil PySem.W.BT.nil) PySem.W.BT.nil) (PySem.W.BT.node (qo_300 P) PySem.W.BT.nil PySem.W.BT.nil))))) (PySem.W.BT.node (qo_46 P) (PySem.W.BT.node (qo_59 P) (PySem.W.BT.node (qo_78 P) (PySem.W.BT.node (qo_114 P) (PySem.W.BT.node (qo_182 P) (PySem.W.BT.node (qo_312 P) PySem.W.BT.nil PySem.W.BT.nil) PySem.W.BT.nil) (PySem.W.BT.node (qo_248 P) (PySem.W.BT.node (qo_378 P) PySem.W.BT.nil PySem.W.BT.nil) PySem.W.BT.nil)) (PySem.W.BT.node (qo_146 P) (PySem.W.BT.node (qo_214 P) (PySem.W.BT.node (qo_346 P) PySem.W.BT.nil PySem.W.BT.nil) PySem.W.BT.nil) (PySem.W.BT.node (qo_280 P) PySem.W.BT.nil PySem.W.BT.nil))) (PySem.W.BT.node (qo_94 P) (PySem.W.BT.node (qo_130 P) (PySem.W.BT.node (qo_198 P) (PySem.W.BT.node (qo_330 P) PySem.W.BT.nil PySem.W.BT.nil) PySem.W.BT.nil) (PySem.W.BT.node (qo_264 P) PySem.W.BT.nil PySem.W.BT.nil)) (PySem.W.BT.node (qo_166 P) (PySem.W.BT.node (qo_230 P) (PySem.W.BT.node (qo_362 P) PySem.W.BT.nil PySem.W.BT.nil) PySem.W.BT.nil) (PySem.W.BT.node (qo_296 P) PySem.W.BT.nil PySem.W.BT.nil)))) (PySem.W.BT.node (qo_67 P) (PySem.W.BT.node (qo_86 P) (PySem.W.BT.node (qo_122 P) (PySem.W.BT.node (qo_190 P) (PySem.W.BT.node (qo_320 P) PySem.W.BT.nil PySem.W.BT.nil) PySem.W.BT.nil) (PySem.W.BT.node (qo_256 P) (PySem.W.BT.node (qo_390 P) PySem.W.BT.nil PySem.W.BT.nil) PySem.W.BT.nil)) (PySem.W.BT.node (qo_154 P) (PySem.W.BT.node (qo_222 P) (PySem.W.BT.node (qo_354 P) PySem.W.BT.nil PySem.W.BT.nil) PySem.W.BT.nil) (PySem.W.BT.node (qo_288 P) PySem.W.BT.nil PySem.W.BT.nil))) (PySem.W.BT.node (qo_106 P) (PySem.W.BT.node (qo_138 P) (PySem.W.BT.node (qo_206 P) (PySem.W.BT.node (qo_338 P) PySem.W.BT.nil PySem.W.BT.nil) PySem.W.BT.nil) (PySem.W.BT.node (qo_272 P) PySem.W.BT.nil PySem.W.BT.nil)) (PySem.W.BT.node (qo_174 P) (PySem.W.BT.node (qo_240 P) (PySem.W.BT.node (qo_370 P) PySem.W.BT.nil PySem.W.BT.nil) PySem.W.BT.nil) (PySem.W.BT.node (qo_304 P) PySem.W.BT.nil PySem.W.BT.nil))))))))
noncomputable def qheap_391 (P : Params) : Heap := (PySem.Heap.mk (Array.mk ((PySem.W.boot_o_0 P) :: (PySem.W.boot_o_1 P) :: (qo_49 P) :: (qo_384 P) :: (PySem.W.boot_o_4 P) :: (PySem.W.boot_o_5 P) :: (PySem.W.boot_o_6 P) :: (PySem.W.boot_o_7 P) :: (PySem.W.boot_o_8 P) :: (PySem.W.boot_o_9 P) :: (PySem.W.boot_o_10 P) :: (qo_43 P) :: (qo_385 P) :: (qo_45 P) :: (qo_46 P) :: (qo_52 P) :: (qo_53 P) :: (qo_54 P) :: (qo_55 P) :: (qo_56 P) :: (qo_57 P) :: (qo_58 P) :: (qo_59 P) :: (qo_60 P) :: (qo_61 P) :: (qo_62 P) :: (qo_63 P) :: (qo_64 P) :: (qo_65 P) :: (qo_66 P) :: (qo_67 P) :: (qo_74 P) :: (qo_69 P) :: (qo_70 P) :: (qo_71 P) :: (qo_75 P) :: (qo_76 P) :: (qo_77 P) :: (qo_78 P) :: (qo_79 P) :: (qo_80 P) :: (qo_81 P) :: (qo_82 P) :: (qo_83 P) :: (qo_84 P) :: (qo_85 P) :: (qo_86 P) :: (qo_87 P) :: (qo_88 P) :: (qo_89 P) :: (qo_90 P) :: (qo_91 P) :: (qo_92 P) :: (qo_93 P) :: (qo_94 P) :: (qo_99 P) :: (qo_100 P) :: (qo_101 P) :: (qo_102 P) :: (qo_103 P) :: (qo_104 P) :: (qo_105 P) :: (qo_106 P) :: (qo_107 P) :: (qo_108 P) :: (qo_109 P) :: (qo_110 P) :: (qo_111 P) :: (qo_112 P) :: (qo_113 P) :: (qo_114 P) :: (qo_115 P) :: (qo_116 P) :: (qo_117 P) :: (qo_118 P) :: (qo_119 P) :: (qo_120 P) :: (qo_121 P) :: (qo_122 P) :: (qo_123 P) :: (qo_124 P) :: (qo_125 P) :: (qo_126 P) :: (qo_127 P) :: (qo_128 P) :: (qo_129 P) :: (qo_130 P) :: (qo_131 P) :: (qo_132 P) :: (qo_133 P) :: (qo_134 P) :: (qo_135 P) :: (qo_136 P) :: (qo_137 P) :: (qo_138 P) :: (qo_139 P) :: (qo_140 P) :: (qo_141 P) :: (qo_142 P) :: (qo_143 P) :: (qo_144 P) :: (qo_145 P) :: (qo_146 P) :: (qo_147 P) :: (qo_148 P) :: (qo_149 P) :: (qo_150 P) :: (qo_151 P) :: (qo_152 P) :: (qo_153 P) :: (qo_154 P) :: (qo_155 P) :: (qo_160 P) :: (qo_161 P) :: (qo_162 P) :: (qo_163 P) :: (qo_164 P) :: (qo_165 P) :: (qo_166 P) :: (qo_167 P) :: (qo_168 P) :: (qo_169 P) :: (qo_170 P) :: (qo_171 P) :: (qo_172 P) :: (qo_173 P) :: (qo_174 P) :: (qo_175 P) :: (qo_176 P) :: (qo_177 P) :: (qo_178 P) :: (qo_179 P) :: (qo_180 P) :: (qo_181 P) :: (qo_182 P) :: (qo_183 P) :: (qo_184 P) :: (qo_185 P) :: (qo_186 P) :: (qo_187 P) :: (qo_188 P) :: (qo_189 P) :: (qo_190 P) :: (qo_191 P) :: (qo_192 P) :: (qo_193 P) :: (qo_194 P) :: (qo_195 P) :: (qo_196 P) :: (qo_197 P) :: (qo_198 P) :: (qo_199 P) :: (qo_200 P) :: (qo_201 P) :: (qo_202 P) :: (qo_203 P) :: (qo_204 P) :: (qo_205 P) :: (qo_206 P) :: (qo_207 P) :: (qo_208 P) :: (qo_209 P) :: (qo_210 P) :: (qo_211 P) :: (qo_212 P) :: (qo_213 P) :: (qo_214 P) :: (qo_215 P) :: (qo_216 P) :: (qo_217 P) :: (qo_218 P) :: (qo_219 P) :: (qo_220 P) :: (qo_221 P) :: (qo_222 P) :: (qo_223 P) :: (qo_224 P) :: (qo_225 P) :: (qo_226 P) :: (qo_227 P) :: (qo_228 P) :: (qo_229 P) :: (qo_230 P) :: (qo_231 P) :: (qo_232 P) :: (qo_233 P) :: (qo_234 P) :: (qo_235 P) :: (qo_236 P) :: (qo_239 P) :: (qo_240 P) :: (qo_241 P) :: (qo_242 P) :: (qo_243 P) :: (qo_244 P) :: (qo_245 P) :: (qo_246 P) :: (qo_247 P) :: (qo_248 P) :: (qo_249 P) :: (qo_250 P) :: (qo_251 P) :: (qo_252 P) :: (qo_253 P) :: (qo_254 P) :: (qo_255 P) :: (qo_256 P) :: (qo_257 P) :: (qo_258 P) :: (qo_259 P) :: (qo_260 P) :: (qo_261 P) :: (qo_262 P) :: (qo_263 P) :: (qo_264 P) :: (qo_265 P) :: (qo_266 P) :: (qo_267 P) :: (qo_268 P) :: (qo_269 P) :: (qo_270 P) :: (qo_271 P) :: (qo_272 P) :: (qo_273 P) :: (qo_274 P) :: (qo_275 P) :: (qo_276 P) :: (qo_277 P) :: (qo_278 P) :: (qo_279 P) :: (qo_280 P) :: (qo_281 P) :: (qo_282 P) :: (qo_283 P) :: (qo_284 P) :: (qo_285 P) :: (qo_286 P) :: (qo_287 P) :: (qo_288 P) :: (qo_289 P) :: (qo_290 P) :: (qo_291 P) :: (qo_292 P) :: (qo_293 P) :: (qo_294 P) :: (qo_295 P) :: (qo_296 P) :: (qo_297 P) :: (qo_298 P) :: (qo_299 P) :: (qo_300 P) :: (qo_301 P) :: (qo_302 P) :: (qo_303 P) :: (qo_304 P) :: (qo_305 P) :: (qo_306 P) :: (qo_307 P) :: (qo_308 P) :: (qo_309 P) :: (qo_310 P) :: (qo_311 P) :: (qo_312 P) :: (qo_313 P) :: (qo_314 P) :: (qo_315 P) :: (qo_316 P) :: (qo_317 P) :: (qo_318 P) :: (qo_319 P) :: (qo_320 P) :: (qo_321 P) :: (qo_322 P) :: (qo_325 P) :: (qo_326 P) :: (qo_327 P) :: (qo_328 P) :: (qo_329 P) :: (qo_330 P) :: (qo_331 P) :: (qo_332 P) :: (qo_333 P) :: (qo_334 P) :: (qo_335 P) :: (qo_336 P) :: (qo_337 P) :: (qo_338 P) :: (qo_339 P) :: (qo_340 P) :: (qo_341 P) :: (qo_342 P) :: (qo_343 P) :: (qo_344 P) :: (qo_345 P) :: (qo_346 P) :: (qo_347 P) :: (qo_348 P) :: (qo_349 P) :: (qo_350 P) :: (qo_351 P) :: (qo_352 P) :: (qo_353 P) :: (qo_354 P) :: (qo_355 P) :: (qo_356 P) :: (qo_357 P) :: (qo_358 P) :: (qo_359 P) :: (qo_360 P) :: (qo_361 P) :: (qo_362 P) :: (qo_363 P) :: (qo_364 P) :: (qo_365 P) :: (qo_366 P) :: (qo_367 P) :: (qo_368 P) :: (qo_369 P) :: (qo_370 P) :: (qo_371 P) :: (qo_372 P) :: (qo_373 P) :: (qo_374 P) :: (qo_375 P) :: (qo_376 P) :: (qo_377 P) :: (qo_378 P) :: (qo_379 P) :: (qo_380 P) :: (qo_381 P) :: (qo_386 P) :: (qo_387 P) :: (qo_388 P) :: (qo_389 P) :: (qo_390 P) :: [])) (PySem.Life.mk [] [] [] (0 : Nat) (@List.nil (Nat × Nat)) [] Bool.false (List.toArray []) [] (0 : Nat) Bool.false Bool.false Bool.false (0 : Int) [(2000 : Int), (10 : Int), (10 : Int)] Bool.false (0 : Nat) Bool.true [] [] (0 : Nat) Bool.false))
end Nz
namespace Nz
noncomputable abbrev pwj : Program := PySem.Challenge.pw_nz0190_01
noncomputable def envj : Env := { scope := pwj.main.scope, locals := mainNs, globals := mainNs, cells := [], code := Value.ref 13, frame := some 14 }
noncomputable abbrev codej : Code := Code.body (behindTheImports pwj) envj
noncomputable def sts1 : List Stmt := [nst 0 pbody, nst 1 pbody]
noncomputable def sts2 : List Stmt := [nst 2 pbody, nst 3 pbody, nst 4 pbody]
noncomputable def sts3 : List Stmt := [nst 5 pbody, nst 6 pbody, nst 7 pbody, nst 8 pbody, nst 9 pbody, nst 10 pbody, nst 11 pbody, nst 12 pbody, nst 13 pbody, nst 14 pbody, nst 15 pbody]
noncomputable def sts4 : List Stmt := [nst 16 pbody, nst 17 pbody, nst 18 pbody, nst 19 pbody, nst 20 pbody, nst 21 pbody, nst 22 pbody, nst 23 pbody, nst 24 pbody, nst 25 pbody, nst 26 pbody, nst 27 pbody, nst 28 pbody, nst 29 pbody]
noncomputable def sts5 : List Stmt := [nst 30 pbody, nst 31 pbody, nst 32 pbody, nst 33 pbody, nst 34 pbody, nst 35 pbody, nst 36 pbody, nst 37 pbody, nst 38 pbody, nst 39 pbody, nst 40 pbody, nst 41 pbody]
noncomputable def sts6 : List Stmt := [nst 42 pbody, nst 43 pbody, nst 44 pbody, nst 45 pbody, nst 46 pbody, nst 47 pbody, nst 48 pbody, nst 49 pbody, nst 50 pbody, nst 51 pbody, nst 52 pbody]
noncomputable def sts7 : List Stmt := [nst 53 pbody]
/-- one piece of the top, over trees -/
abbrev Pc (sr : (String → Option Builtin) → Program → World → Nat → Option Value → Nat → Nat → SharedT → Thread → Option (Flow × SharedT × Code × Pos)) (tt : String → Option Builtin) (sts : List Stmt) (n : Nat) (t1 : Params → BT) (n1 k1 : Nat) (p1 : Pos) (t2 : Params → BT) (n2 k2 : Nat) (p2 : Pos) (w : World) : Prop :=
  (fun os : OsState => sr tt pwj w 11 (some (.ref 6)) 1 n ⟨t1 w.params, n1, {}, Array.mk [], {}, k1, os⟩ (piecesOf sts envj codej p1 [topFrame ⟨0, 0, 0, 0⟩])) = fun os => some (Flow.next, ⟨t2 w.params, n2, {}, Array.mk [], {}, k2, os⟩, codej, p2)
open PySem.W.Fast
theorem pc1 (w : World) : Pc tw10110043849684766642 tw14364793385576792824 sts1 238 qtree_47 15 187 ⟨0, 0, 0, 0⟩ qtree_71 35 218 ⟨2, 0, 6, 24⟩ w := by kernel_rfl
theorem pc2f (w : World) : Pc tw10110043849684766642 tw14364793385576792824 sts2 326 qtree_71 35 218 ⟨2, 0, 6, 24⟩ qtree_94 55 259 ⟨13, 0, 13, 7⟩ (w.withFollow "special-get-raises" false) := by kernel_rfl
theorem pc2t (w : World) : Pc tw10110043849684766642 tw14364793385576792824 sts2 326 qtree_71 35 218 ⟨2, 0, 6, 24⟩ qtree_94 55 259 ⟨13, 0, 13, 7⟩ (w.withFollow "special-get-raises" true) := by kernel_rfl
theorem pc3f (w : World) : Pc tw10110043849684766642 tw14364793385576792824 sts3 391 qtree_94 55 259 ⟨13, 0, 13, 7⟩ qtree_155 112 366 ⟨71, 0, 76, 39⟩ (w.withFollow "special-get-raises" false) := by kernel_rfl
theorem pc3t (w : World) : Pc tw10110043849684766642 tw14364793385576792824 sts3 391 qtree_94 55 259 ⟨13, 0, 13, 7⟩ qtree_155 112 366 ⟨71, 0, 76, 39⟩ (w.withFollow "special-get-raises" true) := by kernel_rfl
theorem pc4 (w : World) : Pc tw10110043849684766642 tw14364793385576792824 sts4 377 qtree_155 112 366 ⟨71, 0, 76, 39⟩ qtree_236 189 479 ⟨172, 0, 192, 13⟩ w := by kernel_rfl
theorem pc5 (w : World) : Pc tw10110043849684766642 tw14364793385576792824 sts5 381 qtree_236 189 479 ⟨172, 0, 192, 13⟩ qtree_322 273 595 ⟨281, 0, 294, 17⟩ w := by kernel_rfl
theorem pc6f (w : World) : Pc tw10110043849684766642 tw14364793385576792824 sts6 376 qtree_322 273 595 ⟨281, 0, 294, 17⟩ qtree_381 330 699 ⟨357, 0, 376, 14⟩ (w.withFollow "special-get-raises" false) := by kernel_rfl
theorem pc6t (w : World) : Pc tw10110043849684766642 tw14364793385576792824 sts6 376 qtree_322 273 595 ⟨281, 0, 294, 17⟩ qtree_381 330 699 ⟨357, 0, 376, 14⟩ (w.withFollow "special-get-raises" true) := by kernel_rfl
theorem pc7 (w : World) : Pc tw10110043849684766642 tw14364793385576792824 sts7 27 qtree_381 330 699 ⟨357, 0, 376, 14⟩ qtree_390 335 705 ⟨377, 0, 404, 92⟩ w := by kernel_rfl
theorem pc_of {sts n t1 n1 k1 p1 t2 n2 k2 p2} {w : World} (h : Pc tw10110043849684766642 tw14364793385576792824 sts n t1 n1 k1 p1 t2 n2 k2 p2 w) : Pc segRunT treeTable sts n t1 n1 k1 p1 t2 n2 k2 p2 w := by
  rw [← te10110043849684766642, ← te14364793385576792824] at h
  exact h
theorem pre (w : World) : (fun os : OsState => topGo treeTable pwj w 11 (some (.ref 6)) 12 ⟨boot_heap w.params, Array.mk [], boot_drawn, boot_toks, os⟩ (topStub pwj)) = fun os => some (⟨qheap_46 w.params, Array.mk [], {}, 187, os⟩, ⟨denote treeTable codej, codej, ⟨0, 0, 0, 0⟩, [topFrame ⟨0, 0, 0, 0⟩]⟩) := by kernel_rfl
theorem blk (w : World) : (fun os : OsState => segRun treeTable pwj w 11 (some (.ref 6)) 1 1 ⟨qheap_46 w.params, Array.mk [], {}, 187, os⟩ (blockOf (behindTheImports pwj) envj codej ⟨0, 0, 0, 0⟩ [topFrame ⟨0, 0, 0, 0⟩])) = fun os => some (Flow.next, SharedT.abs ⟨qtree_47 w.params, 15, {}, Array.mk [], {}, 187, os⟩, codej, ⟨0, 0, 0, 0⟩) := by kernel_rfl
theorem fin (w : World) : (fun os : OsState => topRun treeTable pwj w 11 (some (.ref 6)) 2 (SharedT.abs ⟨qtree_390 w.params, 335, {}, Array.mk [], {}, 705, os⟩) ⟨doneF Flow.next, codej, ⟨377, 0, 404, 92⟩, [topFrame ⟨0, 0, 0, 0⟩]⟩) = fun os => some ⟨qheap_391 w.params, Array.mk [], {}, 705, os⟩ := by kernel_rfl
theorem bodyj : behindTheImports pwj = sts1 ++ (sts2 ++ (sts3 ++ (sts4 ++ (sts5 ++ (sts6 ++ (sts7 ++ [])))))) := by kernel_rfl
theorem runj (w : World) (os : OsState) : topRun treeTable pwj w 11 (some (.ref 6)) 2131 ⟨boot_heap w.params, Array.mk [], boot_drawn, boot_toks, os⟩ (topStub pwj) = some ⟨qheap_391 w.params, Array.mk [], {}, 705, os⟩ := by
  have h2 := byRow2 "special-get-raises" pc2f pc2t w
  have h3 := byRow2 "special-get-raises" pc3f pc3t w
  have h6 := byRow2 "special-get-raises" pc6f pc6t w
  have k : topRun treeTable pwj w 11 (some (.ref 6)) (238 + (326 + (391 + (377 + (381 + (376 + (27 + 2))))))) (SharedT.abs ⟨qtree_47 w.params, 15, {}, Array.mk [], {}, 187, os⟩) (restOf (sts1 ++ (sts2 ++ (sts3 ++ (sts4 ++ (sts5 ++ (sts6 ++ (sts7 ++ []))))))) envj codej ⟨0, 0, 0, 0⟩ [topFrame ⟨0, 0, 0, 0⟩]) = some ⟨qheap_391 w.params, Array.mk [], {}, 705, os⟩ :=
    piece_app (segRun_of (congrFun (pc_of (pc1 w)) os)) (piece_app (segRun_of (congrFun (pc_of h2) os)) (piece_app (segRun_of (congrFun (pc_of h3) os)) (piece_app (segRun_of (congrFun (pc_of (pc4 w)) os))
      (piece_app (segRun_of (congrFun (pc_of (pc5 w)) os)) (piece_app (segRun_of (congrFun (pc_of h6) os)) (piece_app (segRun_of (congrFun (pc_of (pc7 w)) os)) (congrFun (fin w) os)))))))
  rw [← bodyj] at k
  exact go_top (n := 12) (N := 1 + (238 + (326 + (391 + (377 + (381 + (376 + (27 + 2)))))))) (congrFun (pre w) os) (piece_block (congrFun (blk w) os) k)
end Nz
namespace Nz
open PySem.W.Fast
noncomputable abbrev loose3 : List Str := [Str.ofString "CLOSERS", Str.ofString "SHORT_ESCAPES", Str.ofString "_law_named"]
noncomputable abbrev Xt3 : Shared → Bool := fun s => xlAt hd.view_39 [] s && recOk (RowW.records PySem.Challenge.rw_nz0190_01.row.toRowW) s
noncomputable abbrev endj (w : World) (os : OsState) : Shared := ⟨qheap_391 w.params, Array.mk [], {}, 705, os⟩
theorem look1 (w : World) : (fun os => staticsOk (tw5923862056798008813 pwj.main.body) (boot_heap w.params) (qheap_391 w.params) && namesBound pwj (qheap_391 w.params) && gensDone (endj w os) && laidKept (boot_heap w.params) (qheap_391 w.params)) = fun _ => true := by kernel_rfl
theorem look2 (w : World) : (fun os => tw4187177175401517315 hd.view_39 loose3 (tw5923862056798008813 pwj.main.body) Xt3 true (endj w os)) = fun _ => openGood hd.view_39 loose3 := by kernel_rfl
theorem look3 (w : World) : (fun os => Hook.obs (kHook hd.heap_39 as39 as39_e) (endj w os)) = fun _ => Hook.val (kHook hd.heap_39 as39 as39_e) w := by kernel_rfl
theorem looksj (w : World) : (fun os => ((staticsOk (importedModules pwj.main.body) (boot_heap w.params) (qheap_391 w.params) && namesBound pwj (qheap_391 w.params) && gensDone (endj w os) && laidKept (boot_heap w.params) (qheap_391 w.params)), openSeen hd.view_39 loose3 (importedModules pwj.main.body) Xt3 true (endj w os), Hook.obs (kHook hd.heap_39 as39 as39_e) (endj w os))) = fun _ => (true, openGood hd.view_39 loose3, Hook.val (kHook hd.heap_39 as39 as39_e) w) := by
  have h1 := look1 w
  have h2 := look2 w
  rw [← te5923862056798008813] at h1
  rw [← te5923862056798008813, ← te4187177175401517315] at h2
  funext os
  exact Prod.ext (congrFun h1 os) (Prod.ext (congrFun h2 os) (congrFun (look3 w) os))
theorem left3 : LeftO PySem.Challenge.pw_nz0190_01 hd.view_39 loose3 Xt3 (Hook.obs (kHook hd.heap_39 as39 as39_e)) (Hook.val (kHook hd.heap_39 as39 as39_e)) 4344 :=
  LeftO.of_pieces (boot_open (by rfl) (by decide) (fun s => by rfl)) (fun w => by kernel_rfl) runj (by decide) looksj
theorem said3 : PySem.Challenge.rw_nz0190_01.wellSaid = true := by
  rw [te9446332074065402090]
  kernel_rfl
theorem topok3 : (chainsOk hd.view_39 && opensWell PySem.Challenge.rw_nz0190_01.row.prog && (frees PySem.Challenge.rw_nz0190_01.row.toRowW && PySem.Challenge.rw_nz0190_01.row.within.isEmpty)) = true := by kernel_rfl
theorem promised3 : PySem.Challenge.rw_nz0190_01.row.toRowW.promised := by w_witness2
theorem law_head {d : DefRec} {kwd : List (Str × Expr)} (hdef : defOf hd.view_39 PySem.Challenge.rw_nz0190_01.row.name = some (d, kwd)) (hp : PySem.Challenge.rw_nz0190_01.row.prog.theDef PySem.Challenge.rw_nz0190_01.row.name = some (d.params, d.body, d.scope)) (hk : kwWritten? d.params.kwonlyargs d.params.kw_defaults = some kwd)
    (call : WalkO hd.view_39 [Str.ofString "CLOSERS", Str.ofString "SHORT_ESCAPES", Str.ofString "_law_named"] (XL hd.view_39 []) (Hook.says (kHook hd.heap_39 as39 as39_e)) PySem.Challenge.rw_nz0190_01.row.toRowW d kwd fun f vs => PySem.call f vs) : PySem.Challenge.rw_nz0190_01.Holds :=
  holds_law said3 fun said => PySem.W.holds_open (q := hd.view_39) (Xt := Xt3) left3 (Hook.of _) (Hook.keeps _) (fun s e => xl_of s (Bool.and_eq_true_iff.mp e).1) XL.keeps hdef hp hk (fun s e => recFacts_of (Bool.and_eq_true_iff.mp e).2) (by rfl) said topok3 ⟨rfl, rfl, rfl, rfl, rfl, by decide +kernel⟩ promised3 call
end Nz
namespace Nz
theorem fill3 : PySem.Challenge.rw_nz0190_01.name = PySem.Challenge.rw_nz0190_01.name ∧ hd.heap_39 = hd.heap_39 := by
  k_fill
  exact ⟨rfl, rfl⟩
end Nz
namespace Nz
noncomputable abbrev PR : PySem.Program := PySem.Challenge.rw_nz0190_01.row.prog
noncomputable abbrev LO : List PySem.Str := looseW hd.view_39 [Str.ofString "CLOSERS", Str.ofString "SHORT_ESCAPES", Str.ofString "_law_named"]

abbrev RetT := Heap → Addr → (PySem.Str → Option Value) → Shared → (Value → Shared → Prop) → (Value → Shared → Prop) → Prop

/-- a call of the def at `f`, over any caller -/
def Ct (w : World) (mean : ExcName → Option Value) (mg mb : PySem.Str → Option Value) (f : Addr) (dN uN : Nat) (news : List (Addr × Obj)) (vs : List Value) (R : RetT) : Prop :=
  ∀ (dp un : Nat) (gd : Option (List Code)) (cn : PySem.Str) (cs : Scope) (a : Addr) (ccd : Value) (cl : List (PySem.Str × Addr)) (outer : List Env) (A₀ : Around) (base h₀ : Heap) (L : Addr) (m : PySem.Str → Option Value) (s : Shared)
    (Q E : Value → Shared → Prop),
    Below A₀ base outer h₀ → Fr h₀ L s.heap m → (hd.heap_39 w.params).In h₀ → News h₀ L s.heap news → Top hd.view_39 LO mean mg mb h₀ → cs.kind = .function → dp + dN < recursionLimit → un + uN < cLine →
    R h₀ L m s Q E →
    wpAny (model PR w) (ktrTop dp un gd cn cs L a ccd cl outer) (call (.ref f) vs) Q E s

theorem Ct.use {w : World} {mean : ExcName → Option Value} {mg mb : PySem.Str → Option Value} {f : Addr} {dN uN : Nat} {news : List (Addr × Obj)} {vs : List Value} {R : RetT} (C : Ct w mean mg mb f dN uN news vs R)
   {dp un : Nat} {gd : Option (List Code)} {cn : PySem.Str} {cs : Scope} {a : Addr} {ccd : Value} {cl : List (PySem.Str × Addr)} {outer : List Env} {A₀ : Around} {base h₀ : Heap} {L : Addr} {m : PySem.Str → Option Value} {s : Shared}
    {Q E : Value → Shared → Prop}
    (B : Below A₀ base outer h₀) (F : Fr h₀ L s.heap m) (X : (hd.heap_39 w.params).In h₀) (N : News h₀ L s.heap news) (T : Top hd.view_39 LO mean mg mb h₀) (hk : cs.kind = .function) (hd : dp + dN < recursionLimit) (hu : un + uN < cLine)
    (h : R h₀ L m s Q E) : wpAny (model PR w) (ktrTop dp un gd cn cs L a ccd cl outer) (call (.ref f) vs) Q E s :=
  C _ _ _ _ _ _ _ _ _ _ _ _ _ _ _ _ _ B F X N T hk hd hu h

/-- the same, the ledger asked first -/
theorem Ct.use2 {w : World} {mean : ExcName → Option Value} {mg mb : PySem.Str → Option Value} {f : Addr} {dN uN : Nat} {news : List (Addr × Obj)} {vs : List Value} {R : RetT}
   {dp un : Nat} {gd : Option (List Code)} {cn : PySem.Str} {cs : Scope} {a : Addr} {ccd : Value} {cl : List (PySem.Str × Addr)} {outer : List Env} {A₀ : Around} {base h₀ : Heap} {L : Addr} {m : PySem.Str → Option Value} {s : Shared}
    {Q E : Value → Shared → Prop} (N : News h₀ L s.heap news) (C : Ct w mean mg mb f dN uN news vs R)
    (B : Below A₀ base outer h₀) (F : Fr h₀ L s.heap m) (X : (hd.heap_39 w.params).In h₀) (T : Top hd.view_39 LO mean mg mb h₀) (hk : cs.kind = .function) (hd : dp + dN < recursionLimit) (hu : un + uN < cLine)
    (h : R h₀ L m s Q E) : wpAny (model PR w) (ktrTop dp un gd cn cs L a ccd cl outer) (call (.ref f) vs) Q E s :=
  C.use B F X N T hk hd hu h

/-- back: a text, nothing changed -/
def RS (news : List (Addr × Obj)) (y : PySem.Str) : RetT := fun h₀ L m s Q _ => ∀ (u : Tok) (h' : Heap) (tk' : Nat), Fr h₀ L h' m → News h₀ L h' news → Q (.str y u) { s with heap := h', toks := tk' }
def RI (news : List (Addr × Obj)) (y : Int) : RetT := fun h₀ L m s Q _ => ∀ (u : Tok) (h' : Heap) (tk' : Nat), Fr h₀ L h' m → News h₀ L h' news → Q (.int y u) { s with heap := h', toks := tk' }
def RB (news : List (Addr × Obj)) (y : Bool) : RetT := fun h₀ L m s Q _ => ∀ (h' : Heap) (tk' : Nat), Fr h₀ L h' m → News h₀ L h' news → Q (.bool y) { s with heap := h', toks := tk' }
def Hold (P : Prop) : Prop := P
theorem Hold.out {P : Prop} (h : Hold P) : P := h
theorem Hold.mk {P : Prop} (h : P) : Hold P := h
end Nz

namespace Nz
open PySem.Builtin.Str
abbrev S (l : List Nat) : PySem.Str := ⟨l.toArray⟩

open PySem.Builtin.Str in
theorem clip1 (a n : Nat) : max (0 : Int) (min (if (a : Int) < 0 then (a : Int) + n else a) n) = (min a n : Nat) := by
  rw [if_neg (Int.not_lt.mpr (Int.natCast_nonneg a)), Int.max_eq_right (Int.le_min.mpr ⟨Int.natCast_nonneg a, Int.natCast_nonneg n⟩)]
  omega
open PySem.Builtin.Str in
theorem clip2 (i : Int) (n : Nat) (h : 0 ≤ i) : max (0 : Int) (min (if i < 0 then i + n else i) n) = (min i.toNat n : Nat) := by
  obtain ⟨a, rfl⟩ := Int.eq_ofNat_of_zero_le h
  exact clip1 a n
open PySem.Builtin.Str in
theorem idx_clip (i j : Int) (n : Nat) (h0 : 0 ≤ i) (h1 : 0 ≤ j) : strSliceIndices (some i) (some j) 1 n = strSliceIndices (some ((min i.toNat n : Nat) : Int)) (some ((min j.toNat n : Nat) : Int)) 1 n := by
  show sliceRange (max 0 (min (if i < 0 then i + n else i) n)) (max 0 (min (if j < 0 then j + n else j) n)) 1 = sliceRange (max 0 (min (if ((min i.toNat n : Nat) : Int) < 0 then _ else _) n)) (max 0 (min (if ((min j.toNat n : Nat) : Int) < 0 then _ else _) n)) 1
  rw [clip2 i n h0, clip2 j n h1, clip1, clip1, Nat.min_eq_left (Nat.min_le_right _ _), Nat.min_eq_left (Nat.min_le_right _ _)]
open PySem.Builtin.Str in
theorem slice_nat (l : List Nat) (a d : Nat) : Txt.slice (S l) (some (a : Int)) (some ((a + d : Nat) : Int)) = S ((l.drop a).take d) := by
  have e : Txt.slice (S l) (some (a : Int)) (some ((a + d : Nat) : Int)) = StrLaws.sliceText (S l) (some ((min a l.length : Nat) : Int)) (some ((min (a + d) l.length : Nat) : Int)) := by
    unfold Txt.slice StrLaws.sliceText
    rw [idx_clip _ _ _ (Int.natCast_nonneg _) (Int.natCast_nonneg _)]
    rfl
  rw [e, StrLaws.sliceText_nat (S l) (a := min a l.length) (b := min (a + d) l.length) (Nat.le_min.mpr ⟨Nat.le_trans (Nat.min_le_left _ _) (Nat.le_add_right _ _), Nat.min_le_right _ _⟩) (Nat.min_le_right _ _)]
  show S ((l.drop _).take _) = _
  by_cases hi : a ≤ l.length
  · rw [Nat.min_eq_left hi]
    by_cases hj : a + d ≤ l.length
    · rw [Nat.min_eq_left hj, Nat.add_sub_cancel_left]
    · have hj' := Nat.le_of_not_le hj
      rw [Nat.min_eq_right hj', List.take_of_length_le (Nat.le_of_eq List.length_drop), List.take_of_length_le (by rw [List.length_drop]; exact Nat.sub_le_of_le_add (Nat.add_comm a d ▸ hj'))]
  · have hi' := Nat.le_of_not_le hi
    rw [Nat.min_eq_right hi', List.drop_of_length_le (Nat.le_refl _), List.drop_of_length_le hi', List.take_nil, List.take_nil]
theorem slice_S (l : List Nat) (i j : Int) (h0 : 0 ≤ i) (h1 : i ≤ j) : Txt.slice (S l) (some i) (some j) = S ((l.drop i.toNat).take (j - i).toNat) := by
  obtain ⟨a, rfl⟩ := Int.eq_ofNat_of_zero_le h0
  obtain ⟨d, hd⟩ := Int.eq_ofNat_of_zero_le (Int.sub_nonneg_of_le h1)
  rw [hd, show j = ((a + d : Nat) : Int) by rw [Int.natCast_add, ← hd, Int.add_comm, Int.sub_add_cancel]]
  exact slice_nat l a d

theorem nz_c0 (n : Nat) : (@OfNat.ofNat Int n instOfNat) = ((@OfNat.ofNat Nat n (instOfNatNat n) : Nat) : Int) := rfl
theorem nz_c1 (k n : Nat) : (k : Int) + (@OfNat.ofNat Int n instOfNat) = ((k + @OfNat.ofNat Nat n (instOfNatNat n) : Nat) : Int) := rfl
theorem take1 (l : List Nat) (i : Nat) : (l.drop i).take 1 = match l[i]? with | some c => [c] | none => [] := by
  cases h : l[i]? with
  | none => simp at h; simp [List.drop_of_length_le h]
  | some c =>
    obtain ⟨hl, rfl⟩ := List.getElem?_eq_some_iff.mp h
    rw [List.drop_eq_getElem_cons hl]
    rfl

section
variable {prog : Program} {w : World} {A : Around} {E : Value → Shared → Prop} {s : Shared} {value slice : PySem.Expr} {t u ui uj : Tok} {h₀ : Heap} {L : Addr} {m : PySem.Str → Option Value} {news : List (Addr × Obj)} {Q : Value → Shared → Prop} {l a b : List Nat} {i j : Int} {n k : Nat}
theorem nz_slice (hF : Fr h₀ L s.heap m) (hN : News h₀ L s.heap news) (hsz : l.length ≤ 65536) (h0 : i = (n : Nat)) (h1 : j = ((n + k : Nat) : Int)) (h : ∀ h' t' tk, Fr h₀ L h' m → News h₀ L h' news → Q (.str (S ((l.drop n).take k)) t') { s with heap := h', toks := tk })
    (hs : subscripted slice false (.str (S l) t) (.ref s.heap.objs.size) = operate [.ref s.heap.objs.size, .str (S l) t] (getItem (.str (S l) t) (.ref s.heap.objs.size)) := by with_unfolding_all rfl)
    (ht : ∀ r, letTemporaryGo value (.str (S l) t) r = pure () := by intro _; with_unfolding_all rfl) :
    wpAny (model prog w) A (subscriptTail value slice (.str (S l) t) (.ref s.heap.objs.size)) Q E { s with heap := s.heap.push { cls := .type "slice", data := .fields #[.int i ui, .int j uj, .none] } } := by
  refine slice_strN_ss hF hN (fun h' t' k' a b => ?_) hs ht (by show l.toArray.size ≤ _; rw [PySem.sizeLine_eq]; simp; omega)
  rw [slice_S l i j (by omega) (by omega)]
  have e1 : i.toNat = n := by omega
  have e2 : (j - i).toNat = k := by omega
  rw [e1, e2]
  exact h h' t' k' a b
theorem nz_slice_le (hF : Fr h₀ L s.heap m) (hN : News h₀ L s.heap news) (hsz : l.length ≤ 65536) (h0 : i = (n : Nat)) (h1 : j = (k : Nat)) (hle : n ≤ k) (h : ∀ h' t' tk, Fr h₀ L h' m → News h₀ L h' news → Q (.str (S ((l.drop n).take (k - n))) t') { s with heap := h', toks := tk })
    (hs : subscripted slice false (.str (S l) t) (.ref s.heap.objs.size) = operate [.ref s.heap.objs.size, .str (S l) t] (getItem (.str (S l) t) (.ref s.heap.objs.size)) := by with_unfolding_all rfl)
    (ht : ∀ r, letTemporaryGo value (.str (S l) t) r = pure () := by intro _; with_unfolding_all rfl) :
    wpAny (model prog w) A (subscriptTail value slice (.str (S l) t) (.ref s.heap.objs.size)) Q E { s with heap := s.heap.push { cls := .type "slice", data := .fields #[.int i ui, .int j uj, .none] } } :=
  nz_slice hF hN hsz h0 (k := k - n) (by omega) h hs ht
/-- one sign, in the text -/
theorem nz_slice1 (hF : Fr h₀ L s.heap m) (hN : News h₀ L s.heap news) (hsz : l.length ≤ 65536) (h0 : i = (n : Nat)) (h1 : j = ((n + 1 : Nat) : Int)) (hlt : n < l.length) (h : ∀ c h' t' tk, l[n]? = some c → Fr h₀ L h' m → News h₀ L h' news → Q (.str (S [c]) t') { s with heap := h', toks := tk })
    (hs : subscripted slice false (.str (S l) t) (.ref s.heap.objs.size) = operate [.ref s.heap.objs.size, .str (S l) t] (getItem (.str (S l) t) (.ref s.heap.objs.size)) := by with_unfolding_all rfl)
    (ht : ∀ r, letTemporaryGo value (.str (S l) t) r = pure () := by intro _; with_unfolding_all rfl) :
    wpAny (model prog w) A (subscriptTail value slice (.str (S l) t) (.ref s.heap.objs.size)) Q E { s with heap := s.heap.push { cls := .type "slice", data := .fields #[.int i ui, .int j uj, .none] } } := by
  refine nz_slice hF hN hsz h0 h1 (fun h' t' tk F N => ?_) hs ht
  have e : l[n]? = some l[n] := by simp [hlt]
  rw [take1, e]
  exact h _ h' t' tk e F N
/-- one sign, or none -/
theorem nz_slice01 (hF : Fr h₀ L s.heap m) (hN : News h₀ L s.heap news) (hsz : l.length ≤ 65536) (h0 : i = (n : Nat)) (h1 : j = ((n + 1 : Nat) : Int))
    (ha : ∀ c h' t' tk, n < l.length → l[n]? = some c → Fr h₀ L h' m → News h₀ L h' news → Q (.str (S [c]) t') { s with heap := h', toks := tk })
    (hb : ∀ h' t' tk, l.length ≤ n → Fr h₀ L h' m → News h₀ L h' news → Q (.str (S []) t') { s with heap := h', toks := tk })
    (hs : subscripted slice false (.str (S l) t) (.ref s.heap.objs.size) = operate [.ref s.heap.objs.size, .str (S l) t] (getItem (.str (S l) t) (.ref s.heap.objs.size)) := by with_unfolding_all rfl)
    (ht : ∀ r, letTemporaryGo value (.str (S l) t) r = pure () := by intro _; with_unfolding_all rfl) :
    wpAny (model prog w) A (subscriptTail value slice (.str (S l) t) (.ref s.heap.objs.size)) Q E { s with heap := s.heap.push { cls := .type "slice", data := .fields #[.int i ui, .int j uj, .none] } } := by
  refine nz_slice hF hN hsz h0 h1 (fun h' t' tk F N => ?_) hs ht
  rw [take1]
  by_cases hlt : n < l.length
  · have e : l[n]? = some l[n] := by simp [hlt]
    rw [e]
    exact ha _ h' t' tk hlt e F N
  · have e : l[n]? = none := by simp; omega
    rw [e]
    exact hb h' t' tk (by omega) F N
theorem nz_item (hsz : l.length ≤ 65536) (h0 : i = (n : Nat)) (hlt : n < l.length) (h : ∀ c, l[n]? = some c → Q (.str (S [c]) s.toks) { s with toks := s.toks + 1 })
    (hs : subscripted slice false (.str (S l) t) (.int i u) = operate [.str (S l) t, .int i u] (getItem (.str (S l) t) (.int i u)) := by with_unfolding_all rfl)
    (ht : ∀ r, letTemporaryGo value (.str (S l) t) r = pure () := by intro _; with_unfolding_all rfl) :
    wpAny (model prog w) A (subscriptTail value slice (.str (S l) t) (.int i u)) Q E s := by
  have e : l[n]? = some l[n] := by simp [hlt]
  have hL : (S l).length = l.length := by show l.toArray.size = _; simp
  refine item_str (fitsSsize_of (N := 9223372036854775808) (by omega) (by omega) (Int.le_refl _)) (by omega) (by omega) (fun _ => ?_) hs ht
  have q : Txt.item (S l) i = S [l[n]] := by
    unfold Txt.item Txt.charAt
    rw [StrLaws.at_nonneg (n := l[n]) (by omega) (by show l.toArray[i.toNat]? = _; rw [h0]; simp [hlt])]
    rfl
  rw [q]
  exact h _ e
theorem nz_itemK {c : Nat} (hsz : l.length ≤ 65536) (h0 : i = (n : Nat)) (hc : l[n]? = some c) (h : Q (.str (S [c]) s.toks) { s with toks := s.toks + 1 })
    (hs : subscripted slice false (.str (S l) t) (.int i u) = operate [.str (S l) t, .int i u] (getItem (.str (S l) t) (.int i u)) := by with_unfolding_all rfl)
    (ht : ∀ r, letTemporaryGo value (.str (S l) t) r = pure () := by intro _; with_unfolding_all rfl) :
    wpAny (model prog w) A (subscriptTail value slice (.str (S l) t) (.int i u)) Q E s :=
  nz_item hsz h0 (List.getElem?_eq_some_iff.mp hc).1 (fun c' hc' => by cases hc.symm.trans hc'; exact h) hs ht
theorem nz_slice1K {c : Nat} (hF : Fr h₀ L s.heap m) (hN : News h₀ L s.heap news) (hsz : l.length ≤ 65536) (h0 : i = (n : Nat)) (h1 : j = ((n + 1 : Nat) : Int)) (hc : l[n]? = some c) (h : ∀ h' t' tk, Fr h₀ L h' m → News h₀ L h' news → Q (.str (S [c]) t') { s with heap := h', toks := tk })
    (hs : subscripted slice false (.str (S l) t) (.ref s.heap.objs.size) = operate [.ref s.heap.objs.size, .str (S l) t] (getItem (.str (S l) t) (.ref s.heap.objs.size)) := by with_unfolding_all rfl)
    (ht : ∀ r, letTemporaryGo value (.str (S l) t) r = pure () := by intro _; with_unfolding_all rfl) :
    wpAny (model prog w) A (subscriptTail value slice (.str (S l) t) (.ref s.heap.objs.size)) Q E { s with heap := s.heap.push { cls := .type "slice", data := .fields #[.int i ui, .int j uj, .none] } } :=
  nz_slice1 hF hN hsz h0 h1 (List.getElem?_eq_some_iff.mp hc).1 (fun c' h' t' tk hc' F N => by cases hc.symm.trans hc'; exact h h' t' tk F N) hs ht
theorem nz_sliceG (hF : Fr h₀ L s.heap m) (hN : News h₀ L s.heap news) (h0 : i = (n : Nat)) (h1 : j = ((n + k : Nat) : Int)) (hsz : l.length ≤ 65536) (h : ∀ h' t' tk y, Fr h₀ L h' m → News h₀ L h' news → (l.drop n).take k = y → Q (.str (S y) t') { s with heap := h', toks := tk })
    (hs : subscripted slice false (.str (S l) t) (.ref s.heap.objs.size) = operate [.ref s.heap.objs.size, .str (S l) t] (getItem (.str (S l) t) (.ref s.heap.objs.size)) := by with_unfolding_all rfl)
    (ht : ∀ r, letTemporaryGo value (.str (S l) t) r = pure () := by intro _; with_unfolding_all rfl) :
    wpAny (model prog w) A (subscriptTail value slice (.str (S l) t) (.ref s.heap.objs.size)) Q E { s with heap := s.heap.push { cls := .type "slice", data := .fields #[.int i ui, .int j uj, .none] } } :=
  nz_slice hF hN hsz h0 h1 (fun h' t' tk a b => h h' t' tk _ a b rfl) hs ht
theorem take1K {c : Nat} {y : List Nat} (hc : l[n]? = some c) (hy : (l.drop n).take 1 = y) : y = [c] := by rw [take1, hc] at hy; exact hy.symm
theorem take1L {y : List Nat} (hy : (l.drop n).take 1 = y) (hlt : n < l.length) : ∃ c, l[n]? = some c ∧ y = [c] := ⟨l[n], by simp [hlt], take1K (by simp [hlt]) hy⟩
theorem take1C {y : List Nat} (hy : (l.drop n).take 1 = y) : (∃ c, n < l.length ∧ l[n]? = some c ∧ y = [c]) ∨ (l.length ≤ n ∧ y = []) := by
  by_cases hlt : n < l.length
  · obtain ⟨c, h1, h2⟩ := take1L hy hlt
    exact .inl ⟨c, hlt, h1, h2⟩
  · exact .inr ⟨by omega, by rw [← hy, List.drop_of_length_le (by omega)]; rfl⟩
theorem nz_len (hsz : l.length ≤ 65536) (h : Q (.int (l.length : Nat) (s.toks + 1)) { s with toks := s.toks + 1 + 1 }) : wpAny (model prog w) A (call (.builtin "len") [.str (S l) t]) Q E s := by
  have hL : (S l).length = l.length := by show l.toArray.size = _; simp
  refine len_str (by rw [hL]; omega) (by rw [hL]; exact h)
theorem S_beq : (S a == S b) = decide (a = b) := by
  rw [← toList_beq]
  show (a == b) = _
  rw [Bool.eq_iff_iff]; simp
theorem nz_eq (h : Q (.bool (decide (a = b))) s) : wpAny (model prog w) A (compareOp .Eq (.str (S a) t) (.str (S b) u)) Q E s := eq_str (by rw [S_beq]; exact h)
theorem nz_ne (h : Q (.bool (!decide (a = b))) s) : wpAny (model prog w) A (compareOp .NotEq (.str (S a) t) (.str (S b) u)) Q E s := ne_str (by unfold bne; rw [S_beq]; exact h)
theorem nz_eq1 {x y : Nat} (h : Q (.bool (decide (x = y))) s) : wpAny (model prog w) A (compareOp .Eq (.str (S [x]) t) (.str (S [y]) u)) Q E s := nz_eq (by simpa using h)
theorem nz_ne1 {x y : Nat} (h : Q (.bool (!decide (x = y))) s) : wpAny (model prog w) A (compareOp .NotEq (.str (S [x]) t) (.str (S [y]) u)) Q E s := nz_ne (by simpa using h)
theorem nz_eq10 {x : Nat} (h : Q (.bool false) s) : wpAny (model prog w) A (compareOp .Eq (.str (S [x]) t) (.str (S []) u)) Q E s := nz_eq (by simpa using h)
theorem nz_eq01 {x : Nat} (h : Q (.bool false) s) : wpAny (model prog w) A (compareOp .Eq (.str (S []) t) (.str (S [x]) u)) Q E s := nz_eq (by simpa using h)
theorem nz_eq00 (h : Q (.bool true) s) : wpAny (model prog w) A (compareOp .Eq (.str (S []) t) (.str (S []) u)) Q E s := nz_eq (by simpa using h)
theorem nz_ne10 {x : Nat} (h : Q (.bool true) s) : wpAny (model prog w) A (compareOp .NotEq (.str (S [x]) t) (.str (S []) u)) Q E s := nz_ne (by simpa using h)
theorem nz_ne01 {x : Nat} (h : Q (.bool true) s) : wpAny (model prog w) A (compareOp .NotEq (.str (S []) t) (.str (S [x]) u)) Q E s := nz_ne (by simpa using h)
theorem nz_ne00 (h : Q (.bool false) s) : wpAny (model prog w) A (compareOp .NotEq (.str (S []) t) (.str (S []) u)) Q E s := nz_ne (by simpa using h)
theorem nz_in {c : Nat} (h : Q (.bool (decide (c ∈ l))) s) : wpAny (model prog w) A (compareOp .In (.str (S [c]) u) (.str (S l) t)) Q E s :=
  in_str (by rw [show S [c] = ⟨#[c]⟩ from rfl, StrLaws.found_one]; simpa using h)
theorem nz_inF {c : Nat} (hc : c ∉ l) (h : Q (.bool false) s) : wpAny (model prog w) A (compareOp .In (.str (S [c]) u) (.str (S l) t)) Q E s := nz_in (by simpa [hc] using h)
theorem nz_inT {c : Nat} (hc : c ∈ l) (h : Q (.bool true) s) : wpAny (model prog w) A (compareOp .In (.str (S [c]) u) (.str (S l) t)) Q E s := nz_in (by simpa [hc] using h)
theorem nz_const {x : PySem.Str} {k pos} {env : Env} (e : x = S l) (h : Q (.str (S l) s.toks) { s with toks := s.toks + 1 }) : wpAny (model prog w) A (eval (.Constant (.str x) k pos) env) Q E s := by
  subst e; exact Calls.Constant_str h
theorem S_append : S a ++ S b = S (a ++ b) := by
  show Str.append (S a) (S b) = _
  simp [Str.append]
theorem S_length : (S a).length = a.length := by show a.toArray.size = _; simp
theorem nz_add (hsz : a.length + b.length ≤ 65536) (h : ∀ t' tk, Q (.str (S (a ++ b)) t') { s with toks := tk }) : wpAny (model prog w) A (binaryOp .Add (.str (S a) t) (.str (S b) u)) Q E s :=
  add_str (fun t' tk => by rw [S_append]; exact h t' tk) (by rw [S_length, S_length, PySem.sizeLine_eq]; omega)
theorem nz_iadd (hsz : a.length + b.length ≤ 65536) (h : ∀ t' tk, Q (.str (S (a ++ b)) t') { s with toks := tk }) : wpAny (model prog w) A (inplaceOp .Add (.str (S a) t) (.str (S b) u)) Q E s :=
  iadd_str (fun t' tk => by rw [S_append]; exact h t' tk) (by rw [S_length, S_length, PySem.sizeLine_eq]; omega)
end
abbrev eofL : List Nat := [67,97,110,39,116,32,102,105,110,100,32,115,116,114,105,110,103,32,116,101,114,109,105,110,97,116,111,114,32,97,110,121,119,104,101,114,101,32,98,101,102,111,114,101,32,69,79,70]
theorem lit_eof : PySem.Str.ofString "Can't find string terminator anywhere before EOF" = S eofL := by decide +kernel
theorem lit_0 : PySem.Str.ofString "" = S [] := by decide +kernel
theorem lit_bs : PySem.Str.ofString "\\" = S [92] := by decide +kernel
theorem lit_nl : PySem.Str.ofString "\n" = S [10] := by decide +kernel
theorem lit_text : PySem.Str.ofString "text" = S [116, 101, 120, 116] := by decide +kernel
theorem lit_x : PySem.Str.ofString "x" = S [120] := by decide +kernel
theorem lit_o : PySem.Str.ofString "o" = S [111] := by decide +kernel
theorem lit_lb : PySem.Str.ofString "{" = S [123] := by decide +kernel
theorem lit_rb : PySem.Str.ofString "}" = S [125] := by decide +kernel
theorem lit_N : PySem.Str.ofString "N" = S [78] := by decide +kernel
theorem lit_c : PySem.Str.ofString "c" = S [99] := by decide +kernel
theorem lit_dollar : PySem.Str.ofString "$" = S [36] := by decide +kernel
theorem lit_at : PySem.Str.ofString "@" = S [64] := by decide +kernel
theorem lit_dot : PySem.Str.ofString "." = S [46] := by decide +kernel
theorem lit_E : PySem.Str.ofString "E" = S [69] := by decide +kernel
theorem lit_oct : PySem.Str.ofString "01234567" = S [48,49,50,51,52,53,54,55] := by decide +kernel
theorem lit_hex : PySem.Str.ofString "0123456789abcdef" = S [48,49,50,51,52,53,54,55,56,57,97,98,99,100,101,102] := by decide +kernel
theorem lit_cases : PySem.Str.ofString "ULFQulE" = S [85,76,70,81,117,108,69] := by decide +kernel
theorem lit_ul : PySem.Str.ofString "ul" = S [117,108] := by decide +kernel
theorem lit_00 : PySem.Str.ofString "00" = S [48,48] := by decide +kernel
theorem lit_z : PySem.Str.ofString "0" = S [48] := by decide +kernel
theorem lit_bx : PySem.Str.ofString "\\x" = S [92,120] := by decide +kernel
theorem lit_bxb : PySem.Str.ofString "\\x{" = S [92,120,123] := by decide +kernel
theorem lit_bob : PySem.Str.ofString "\\o{" = S [92,111,123] := by decide +kernel
theorem lit_ops : PySem.Str.ofString "({<['/|~" = S [40,123,60,91,39,47,124,126] := by decide +kernel
theorem lit_p1 : PySem.Str.ofString "(" = S [40] := by decide +kernel
theorem lit_p2 : PySem.Str.ofString ")" = S [41] := by decide +kernel
theorem lit_p3 : PySem.Str.ofString "<" = S [60] := by decide +kernel
theorem lit_p4 : PySem.Str.ofString ">" = S [62] := by decide +kernel
theorem lit_p5 : PySem.Str.ofString "'" = S [39] := by decide +kernel
theorem lit_p6 : PySem.Str.ofString "/" = S [47] := by decide +kernel
theorem lit_p7 : PySem.Str.ofString "|" = S [124] := by decide +kernel
theorem lit_p8 : PySem.Str.ofString "~" = S [126] := by decide +kernel
end Nz

namespace Nz
/-- the place of the closing sign, from `rest` (which begins at place `e`) at depth `d` -/
def delimR (o c : Nat) : List Nat → Nat → Nat → Option Nat
  | [], _, _ => none
  | [x], d, e => if x = 92 then none else if x = c then (if d = 1 then some e else none) else none
  | x :: y :: r, d, e => if x = 92 then delimR o c r d (e + 2) else if x = c then (if d = 1 then some e else delimR o c (y :: r) (d - 1) (e + 1)) else if x = o then delimR o c (y :: r) (d + 1) (e + 1) else delimR o c (y :: r) d (e + 1)
theorem delimR_nil (o c d e : Nat) : delimR o c [] d e = none := by unfold delimR; rfl
theorem delimR_cons (o c x : Nat) (r : List Nat) (d e : Nat) : delimR o c (x :: r) d e = if x = 92 then delimR o c r.tail d (e + 2) else if x = c then (if d = 1 then some e else delimR o c r (d - 1) (e + 1)) else if x = o then delimR o c r (d + 1) (e + 1) else delimR o c r d (e + 1) := by
  cases r with
  | nil =>
    conv => lhs; unfold delimR
    simp only [List.tail_nil, delimR_nil]
    (repeat' split) <;> rfl
  | cons y r =>
    conv => lhs; unfold delimR
    rfl
theorem drop_at {l : List Nat} {n x : Nat} (h : l[n]? = some x) : l.drop n = x :: l.drop (n + 1) := by
  obtain ⟨hl, rfl⟩ := List.getElem?_eq_some_iff.mp h
  exact List.drop_eq_getElem_cons hl
theorem delim_bs {o c : Nat} {l : List Nat} {n d : Nat} {R : Option Nat} {x : Nat} (h : l[n]? = some x) (h1 : x = 92) (p : delimR o c (l.drop n) d n = R) : delimR o c (l.drop (n + 2)) d (n + 2) = R := by
  rw [drop_at h, delimR_cons, if_pos h1, List.tail_drop] at p
  exact p
theorem delim_end {o c : Nat} {l : List Nat} {n d x : Nat} {R : Option Nat} (h : l[n]? = some x) (h1 : x ≠ 92) (h2 : x = c) (h3 : d = 1) (p : delimR o c (l.drop n) d n = R) : R = some n := by
  rw [drop_at h, delimR_cons, if_neg h1, if_pos h2, if_pos h3] at p
  exact p.symm
theorem delim_close {o c : Nat} {l : List Nat} {n d x : Nat} {R : Option Nat} (h : l[n]? = some x) (h1 : x ≠ 92) (h2 : x = c) (h3 : d ≠ 1) (p : delimR o c (l.drop n) d n = R) : delimR o c (l.drop (n + 1)) (d - 1) (n + 1) = R := by
  rw [drop_at h, delimR_cons, if_neg h1, if_pos h2, if_neg h3] at p
  exact p
theorem delim_open {o c : Nat} {l : List Nat} {n d x : Nat} {R : Option Nat} (h : l[n]? = some x) (h1 : x ≠ 92) (h2 : x ≠ c) (h3 : x = o) (p : delimR o c (l.drop n) d n = R) : delimR o c (l.drop (n + 1)) (d + 1) (n + 1) = R := by
  rw [drop_at h, delimR_cons, if_neg h1, if_neg h2, if_pos h3] at p
  exact p
theorem delim_other {o c : Nat} {l : List Nat} {n d x : Nat} {R : Option Nat} (h : l[n]? = some x) (h1 : x ≠ 92) (h2 : x ≠ c) (h3 : x ≠ o) (p : delimR o c (l.drop n) d n = R) : delimR o c (l.drop (n + 1)) d (n + 1) = R := by
  rw [drop_at h, delimR_cons, if_neg h1, if_neg h2, if_neg h3] at p
  exact p
theorem delim_out {o c : Nat} {l : List Nat} {n d : Nat} {R : Option Nat} (h : l.length ≤ n) (p : delimR o c (l.drop n) d n = R) : R = none := by
  rw [List.drop_of_length_le h, delimR_nil] at p
  exact p.symm
end Nz

namespace Nz
/-- what `unguarded` leaves of a text -/
def ungR (o c : Nat) (pl : Bool) : List Nat → List Nat
  | [] => []
  | [x] => [x]
  | x :: y :: r => if x = 92 then (if y = o ∨ y = c ∨ (pl = true ∧ y = 92) then y :: ungR o c pl r else x :: y :: ungR o c pl r) else x :: ungR o c pl (y :: r)
theorem ungR_cons (o c : Nat) (pl : Bool) {x : Nat} (h : x ≠ 92) (r : List Nat) : ungR o c pl (x :: r) = x :: ungR o c pl r := by
  cases r with
  | nil => simp [ungR]
  | cons y r => rw [ungR, if_neg h]
theorem ungR_last (o c : Nat) (pl : Bool) (x : Nat) : ungR o c pl [x] = [x] := by simp [ungR]
theorem ung_plain {o c x n : Nat} {pl : Bool} {l out R : List Nat} (h : l[n]? = some x) (h1 : x ≠ 92) (p : out ++ ungR o c pl (l.drop n) = R) : (out ++ [x]) ++ ungR o c pl (l.drop (n + 1)) = R := by
  rw [drop_at h, ungR_cons _ _ _ h1] at p
  simpa using p
theorem ung_last {o c x n : Nat} {pl : Bool} {l out R : List Nat} (h : l[n]? = some x) (h1 : l.length ≤ n + 1) (p : out ++ ungR o c pl (l.drop n) = R) : (out ++ [x]) ++ ungR o c pl (l.drop (n + 1)) = R := by
  rw [drop_at h, List.drop_of_length_le h1, ungR_last] at p
  rw [List.drop_of_length_le h1]
  simpa [ungR] using p
theorem ung_take {o c x y n : Nat} {pl : Bool} {l out R : List Nat} (h : l[n]? = some x) (h1 : x = 92) (h2 : l[n + 1]? = some y) (h3 : y = o ∨ y = c ∨ (pl = true ∧ y = 92)) (p : out ++ ungR o c pl (l.drop n) = R) : (out ++ [y]) ++ ungR o c pl (l.drop (n + 2)) = R := by
  rw [drop_at h, drop_at h2, ungR, if_pos h1, if_pos h3] at p
  simpa using p
theorem ung_both {o c x y n : Nat} {pl : Bool} {l out R : List Nat} (h : l[n]? = some x) (h1 : x = 92) (h2 : l[n + 1]? = some y) (h3 : y ≠ o) (h4 : y ≠ c) (h5 : ¬ (pl = true ∧ y = 92)) (p : out ++ ungR o c pl (l.drop n) = R) : (out ++ (l.drop n).take 2) ++ ungR o c pl (l.drop (n + 2)) = R := by
  rw [drop_at h, drop_at h2, ungR, if_pos h1, if_neg (by rintro (q | q | q); exact h3 q; exact h4 q; exact h5 q)] at p
  rw [drop_at h, drop_at h2]
  simpa using p
end Nz

namespace Nz
abbrev hexS : List Nat := [48,49,50,51,52,53,54,55,56,57,97,98,99,100,101,102]
/-- the value of a figure -/
def dig (c : Nat) : Option Nat := if 48 ≤ c ∧ c ≤ 57 then some (c - 48) else if 97 ≤ c ∧ c ≤ 102 then some (c - 87) else none
theorem dig_tab : ((List.range 103).all fun c => match dig c with | some d => [(48,0),(49,1),(50,2),(51,3),(52,4),(53,5),(54,6),(55,7),(56,8),(57,9),(97,10),(98,11),(99,12),(100,13),(101,14),(102,15)].contains (c, d) | none => true) = true := by decide +kernel
theorem dig_bd {c d : Nat} (h : dig c = some d) : d < 16 ∧ c < 103 := by
  unfold dig at h
  split at h
  · rename_i hc
    cases h
    exact ⟨Nat.lt_of_le_of_lt (Nat.sub_le_sub_right hc.2 48) (by decide), Nat.lt_of_le_of_lt hc.2 (by decide)⟩
  · split at h
    · rename_i hc
      cases h
      exact ⟨Nat.lt_of_le_of_lt (Nat.sub_le_sub_right hc.2 87) (by decide), Nat.lt_of_le_of_lt hc.2 (by decide)⟩
    · cases h
theorem dig_cases {c d : Nat} (h : dig c = some d) : (c, d) ∈ [(48,0),(49,1),(50,2),(51,3),(52,4),(53,5),(54,6),(55,7),(56,8),(57,9),(97,10),(98,11),(99,12),(100,13),(101,14),(102,15)] := by
  have := List.all_eq_true.mp dig_tab c (List.mem_range.mpr (dig_bd h).2)
  rw [h] at this
  exact List.contains_iff_mem.mp this
theorem dig_all : ∀ p ∈ [(48,0),(49,1),(50,2),(51,3),(52,4),(53,5),(54,6),(55,7),(56,8),(57,9),(97,10),(98,11),(99,12),(100,13),(101,14),(102,15)], Txt.lower (S [p.1]) = S [p.1] ∧ Txt.find (S hexS) (S [p.1]) = ((p.2 : Nat) : Int) := by decide +kernel
theorem dig_lower {c d : Nat} (h : dig c = some d) : Txt.lower (S [c]) = S [c] := (dig_all _ (dig_cases h)).1
theorem dig_find {c d : Nat} (h : dig c = some d) : Txt.find (S hexS) (S [c]) = (d : Int) := (dig_all _ (dig_cases h)).2
theorem dig_lt {c d : Nat} (h : dig c = some d) : d < 16 := (dig_bd h).1
/-- the number that figures write -/
def digV (b : Nat) (cs : List Nat) : Nat := cs.foldl (fun v c => v * b + (dig c).getD 0) 0
theorem digV_nil (b : Nat) : digV b [] = 0 := rfl
theorem digV_snoc (b : Nat) (cs : List Nat) (c : Nat) : digV b (cs ++ [c]) = digV b cs * b + (dig c).getD 0 := by simp [digV]
theorem digV_take (b : Nat) (cs : List Nat) (hb : 1 ≤ b) (j : Nat) : digV b (cs.take j) ≤ digV b cs := by
  have mono : ∀ (r : List Nat) (v : Nat), v ≤ r.foldl (fun v c => v * b + (dig c).getD 0) v := by
    intro r
    induction r with
    | nil => intro v; exact Nat.le_refl _
    | cons c r ih => intro v; exact Nat.le_trans (Nat.le_trans (Nat.le_mul_of_pos_right v hb) (Nat.le_add_right _ _)) (ih _)
  have e : digV b cs = (cs.drop j).foldl (fun v c => v * b + (dig c).getD 0) (digV b (cs.take j)) := by
    unfold digV
    rw [← List.foldl_append, List.take_append_drop]
  rw [e]
  exact mono _ _
theorem digV_step {b j c d : Nat} {cs : List Nat} (h : cs[j]? = some c) (hd : dig c = some d) : digV b (cs.take (j + 1)) = digV b (cs.take j) * b + d := by
  rw [List.take_add_one, h]
  show digV b (cs.take j ++ [c]) = _
  rw [digV_snoc, hd]
  rfl
open PySem.Builtin.Str in
theorem slice_to (l : List Nat) (k : Nat) : Txt.slice (S l) none (some (k : Int)) = S (l.take k) := by
  have e : Txt.slice (S l) none (some (k : Int)) = Txt.slice (S l) (some 0) (some (k : Int)) := by unfold Txt.slice; rw [StrLaws.sliceIdx_none_lo]
  rw [e, slice_S l 0 k (by omega) (by omega)]
  simp
open PySem.Builtin.Str in
theorem sub_one (l : List Nat) (c i : Nat) : StrLaws.At (S l) (S [c]) (S l).length i ↔ l[i]? = some c := by
  unfold StrLaws.At
  rw [StrLaws.subAt_eq, S_length, S_length]
  show (i + 1 ≤ l.length ∧ ((l.drop i).take 1 == [c]) = true) ↔ _
  rw [take1]
  cases h : l[i]? with
  | none =>
    simp only [List.getElem?_eq_none_iff] at h
    constructor
    · intro q; omega
    · intro q; cases q
  | some x =>
    have hl := (List.getElem?_eq_some_iff.mp h).1
    simp only [Option.some.injEq]
    constructor
    · intro q; simpa using q.2
    · rintro rfl; exact ⟨by omega, by simp⟩
open PySem.Builtin.Str in
theorem find_from (l : List Nat) (c k e : Nat) (hk : k ≤ e) (he : l[e]? = some c) (hno : ∀ j, k ≤ j → j < e → l[j]? ≠ some c) : Txt.find3 (S l) (S [c]) (k : Int) = (e : Int) := by
  unfold Txt.find3
  have ek : fromIndex (S l).length (k : Int) = k := by unfold fromIndex; rw [if_neg (by omega)]; omega
  rw [ek]
  rcases StrLaws.occ_head_from (S l) (S [c]) k 1 (by omega) with ⟨_, h⟩ | ⟨i, r, h0, h1, h2, h3⟩
  · exact absurd ((sub_one l c e).mpr he) (h e hk)
  · rw [h0]
    have h2' := (sub_one l c i).mp h2
    show (i : Int) = e
    rcases Nat.lt_trichotomy i e with q | q | q
    · exact absurd h2' (hno i h1 q)
    · rw [q]
    · exact absurd ((sub_one l c e).mpr he) (h3 e hk q)
section
variable {prog : Program} {w : World} {A : Around} {E : Value → Shared → Prop} {s : Shared} {value slice : PySem.Expr} {t u v uj : Tok} {h₀ : Heap} {L : Addr} {m : PySem.Str → Option Value} {news : List (Addr × Obj)} {Q : Value → Shared → Prop} {l a b : List Nat} {i j : Int} {n k e : Nat}
theorem nz_lower (he : Txt.lower (S a) = S b) (hsz : a.length ≤ 65536) (h : ∀ tk, Q (.str (S b) tk) { s with toks := s.toks + 1 }) : wpAny (model prog w) A (call (.builtin "str.lower") [.str (S a) t]) Q E s :=
  SCL.lower (by rw [S_length]; omega) (fun _ => by rw [he]; exact h _)
theorem nz_find {X : PySem.Str} (hX : X = S a) (he : Txt.find (S a) (S b) = i) (h : ∀ tk, Q (.int i tk) { s with toks := s.toks + 1 }) : wpAny (model prog w) A (call (.builtin "str.find") [.str X t, .str (S b) u]) Q E s :=
  SC.find (by rw [hX, he]; exact h _)
theorem nz_find3 (h0 : i = (k : Nat)) (hk : k ≤ e) (he : l[e]? = some n) (hno : ∀ j, k ≤ j → j < e → l[j]? ≠ some n) (h : ∀ tk, Q (.int (e : Nat) tk) { s with toks := s.toks + 1 }) : wpAny (model prog w) A (call (.builtin "str.find") [.str (S l) t, .str (S [n]) u, .int i v]) Q E s :=
  SC.find3 (by rw [h0, find_from l n k e hk he hno]; exact h _)
theorem nz_slice_to (hF : Fr h₀ L s.heap m) (hN : News h₀ L s.heap news) (h0 : j = (k : Nat)) (hsz : l.length ≤ 65536) (h : ∀ h' t' tk, Fr h₀ L h' m → News h₀ L h' news → Q (.str (S (l.take k)) t') { s with heap := h', toks := tk })
    (hs : subscripted slice false (.str (S l) t) (.ref s.heap.objs.size) = operate [.ref s.heap.objs.size, .str (S l) t] (getItem (.str (S l) t) (.ref s.heap.objs.size)) := by with_unfolding_all rfl)
    (ht : ∀ r, letTemporaryGo value (.str (S l) t) r = pure () := by intro _; with_unfolding_all rfl) :
    wpAny (model prog w) A (subscriptTail value slice (.str (S l) t) (.ref s.heap.objs.size)) Q E { s with heap := s.heap.push { cls := .type "slice", data := .fields #[.none, .int j uj, .none] } } := by
  refine slice_strN_ns hF hN (fun h' t' k' a b => ?_) hs ht (by rw [S_length, PySem.sizeLine_eq]; omega)
  rw [h0, slice_to]
  exact h h' t' k' a b
end
open PySem.Builtin.Str in
theorem slice_last (l : List Nat) (k : Nat) (hk : 0 < k) : Txt.slice (S l) (some (-(k : Int))) none = S (l.drop (l.length - k)) := by
  have c : max (0 : Int) (min (if (-(k : Int)) < 0 then (-(k : Int)) + l.length else (-(k : Int))) l.length) = (l.length - k : Nat) := by
    rw [if_pos (Int.neg_neg_of_pos (Int.natCast_pos.mpr hk))]
    omega
  have e : Txt.slice (S l) (some (-(k : Int))) none = Txt.slice (S l) (some ((l.length - k : Nat) : Int)) (some ((l.length - k + l.length : Nat) : Int)) := by
    unfold Txt.slice
    rw [StrLaws.sliceIdx_none_hi, S_length]
    have q : strSliceIndices (some (-(k : Int))) (some (l.length : Int)) 1 l.length = strSliceIndices (some ((l.length - k : Nat) : Int)) (some ((l.length - k + l.length : Nat) : Int)) 1 l.length := by
      show sliceRange (max 0 (min (if (-(k : Int)) < 0 then _ else _) _)) (max 0 (min (if ((l.length : Nat) : Int) < 0 then _ else _) _)) 1 = sliceRange (max 0 (min (if ((l.length - k : Nat) : Int) < 0 then _ else _) _)) (max 0 (min (if ((l.length - k + l.length : Nat) : Int) < 0 then _ else _) _)) 1
      rw [c, clip1, clip1, clip1, Nat.min_eq_left (Nat.le_refl _), Nat.min_eq_left (Nat.sub_le _ _), Nat.min_eq_right (Nat.le_add_left _ _)]
    rw [q]
  rw [e, slice_nat, List.take_of_length_le]
  rw [List.length_drop]
  exact Nat.sub_le _ _
section
variable {prog : Program} {w : World} {A : Around} {E : Value → Shared → Prop} {s : Shared} {value slice : PySem.Expr} {t u v ui : Tok} {h₀ : Heap} {L : Addr} {m : PySem.Str → Option Value} {news : List (Addr × Obj)} {Q : Value → Shared → Prop} {l : List Nat} {i : Int} {k : Nat}
theorem nz_slice_last (hF : Fr h₀ L s.heap m) (hN : News h₀ L s.heap news) (h0 : i = -(k : Int)) (hk : 0 < k) (hsz : l.length ≤ 65536) (h : ∀ h' t' tk, Fr h₀ L h' m → News h₀ L h' news → Q (.str (S (l.drop (l.length - k))) t') { s with heap := h', toks := tk })
    (hs : subscripted slice false (.str (S l) t) (.ref s.heap.objs.size) = operate [.ref s.heap.objs.size, .str (S l) t] (getItem (.str (S l) t) (.ref s.heap.objs.size)) := by with_unfolding_all rfl)
    (ht : ∀ r, letTemporaryGo value (.str (S l) t) r = pure () := by intro _; with_unfolding_all rfl) :
    wpAny (model prog w) A (subscriptTail value slice (.str (S l) t) (.ref s.heap.objs.size)) Q E { s with heap := s.heap.push { cls := .type "slice", data := .fields #[.int i ui, .none, .none] } } := by
  refine slice_strN_sn hF hN (fun h' t' k' a b => ?_) hs ht (by rw [S_length, PySem.sizeLine_eq]; omega)
  rw [h0, slice_last l k hk]
  exact h h' t' k' a b
end
theorem nz_inTab {prog : Program} {w : World} {A : Around} {E : Value → Shared → Prop} {s : Shared} {d : Addr} {D : List (PyData × PyData)} {x : PySem.Str} {t : Tok} {r : Option PyData} {Q : Value → Shared → Prop} (hl : Spec.lookup (PyData.str x) D = r) (T : StrTab prog w s.heap d D) (h : ∀ tk, Q (.bool r.isSome) { s with toks := tk }) :
    wpAny (model prog w) A (compareOp .In (.str x t) (.ref d)) Q E s := in_strTab T (by rw [hl]; exact h _)
end Nz

namespace Nz
/-- what holds between the turns of a for: the ledger, the names that are followed, the rest as it was -/
def NzJ {σ : Type} (Led : σ → List (Addr × Obj)) (ps : σ → List (PySem.Str × Value)) (x : PySem.Str) (stored : List PySem.Str) (m₀ : PySem.Str → Option Value) (P : Nat → σ → Prop) (i : Nat) (m : PySem.Str → Option Value) (nx : List (Addr × Obj)) : Prop :=
  ∃ c : σ, nx = Led c ∧ (∀ p ∈ ps c, m p.1 = some p.2) ∧ (∀ z, z ≠ x → (∀ p ∈ ps c, z ≠ p.1) → stored.contains z = false → m z = m₀ z) ∧ P i c
section
variable {prog : Program} {w : World} {A : Around} {E : Value → Shared → Prop} {s : Shared} {env : Env} {h₀ : Heap} {x : PySem.Str} {body : List Stmt} {Q : Flow → Shared → Prop}
theorem nz_forL {σ : Type} {l : Addr} {vs : List Value} {nn : Nat} {m₀ : PySem.Str → Option Value} (Led : σ → List (Addr × Obj)) (ps : σ → List (PySem.Str × Value)) (stored : List PySem.Str) (P : Nat → σ → Prop) (c₀ : σ)
    (hh : A.handled = none) (hl : ∀ c : σ, (l, listOf vs.toArray nn) ∈ Led c) (F : Fr h₀ env.locals s.heap m₀) (N : News h₀ env.locals s.heap (Led c₀)) (hk : ∀ p ∈ ps c₀, m₀ p.1 = some p.2) (hp : P 0 c₀)
    (turn : ∀ (c : σ) (i : Nat) (v : Value) (u : PySem.Str → Option Value) h tk own, vs[i]? = some v → OwnOff own ((Led c).map (·.1)) → P i c →
      Fr h₀ env.locals h (fun y => if y = x then some v else kstB (fun z => if stored.contains z then u z else m₀ z) (ps c) y) → News h₀ env.locals h (Led c ++ own) →
      wpAny (model prog w) A (execs body env) (InvPostG h₀ env.locals (NzJ Led ps x stored m₀ P (i + 1)) own { s with heap := h, toks := tk } Q) E { s with heap := h, toks := tk })
    (done : ∀ (c : σ) (u : PySem.Str → Option Value) h tk, P vs.length c → Fr h₀ env.locals h (fun y => if y = x then u y else kstB (fun z => if stored.contains z then u z else m₀ z) (ps c) y) → News h₀ env.locals h (Led c) → Q .next { s with heap := h, toks := tk }) :
    wpAny (model prog w) A (pyIter (.ref l)) (fun it s₂ => LoopAtV prog w A h₀ env x body Q E it s₂) E s := by
  refine kdl_iter (nn := nn) (NzJ Led ps x stored m₀ P) hh (hl c₀) F N ⟨c₀, rfl, hk, fun _ _ _ _ => rfl, hp⟩ ?_ ?_
  · rintro i v m₁ news₁ h tk own hv hoff _ ⟨c, rfl, h1, h2, hp'⟩ F₁ N₁
    refine wpAny_mono (turn c i v m₁ h tk own hv hoff hp' (kst_fr h1 h2 F₁) N₁) (fun f s₂ p => ?_) fun _ _ e => e
    cases f with
    | ret v => exact p
    | brk => exact p
    | next =>
      obtain ⟨h', tk', m', news', nx, e, F', N', hn, ho, ha, hJ⟩ := p
      exact ⟨h', tk', m', news', nx, e, F', N', hn, ho, ha, by obtain ⟨c', rfl, _⟩ := hJ; exact hl c', hJ⟩
    | cont =>
      obtain ⟨h', tk', m', news', nx, e, F', N', hn, ho, ha, hJ⟩ := p
      exact ⟨h', tk', m', news', nx, e, F', N', hn, ho, ha, by obtain ⟨c', rfl, _⟩ := hJ; exact hl c', hJ⟩
  · rintro m₁ nx h tk ⟨c, rfl, h1, h2, hp'⟩ F₁ N₁
    exact done c m₁ h tk hp' (kst_frOut h1 h2 F₁) N₁
theorem nz_endG {σ : Type} {Led : σ → List (Addr × Obj)} {ps : σ → List (PySem.Str × Value)} {stored : List PySem.Str} {m₀ : PySem.Str → Option Value} {P : Nat → σ → Prop} {i : Nat} {L : Addr} {m' : PySem.Str → Option Value} {own news' : List (Addr × Obj)} {s₁ : Shared} {h' : Heap} {tk : Nat} (c : σ)
    (F : Fr h₀ L h' m') (N : News h₀ L h' news') (hn : ∀ p ∈ Led c, p ∈ news') (ho : ∀ p ∈ own, p ∈ news') (ha : OwnOff own ((Led c).map (·.1))) (hk : ∀ p ∈ ps c, m' p.1 = some p.2) (hr : ∀ z, z ≠ x → (∀ p ∈ ps c, z ≠ p.1) → stored.contains z = false → m' z = m₀ z) (hp : P i c) :
    InvEndG h₀ L (NzJ Led ps x stored m₀ P i) own s₁ { s₁ with heap := h', toks := tk } := InvEndG.intro F N ⟨c, rfl, hk, hr, hp⟩ ha hn ho
theorem codes_at {l : List Nat} {pre post : List Int} {n : Nat} (h : KStt.codes (S l) = pre ++ (n : Int) :: post) : l[pre.length]? = some n := by
  have e : (l.map fun c : Nat => (c : Int)) = pre ++ (n : Int) :: post := h
  have q := congrArg (fun z => z[pre.length]?) e
  simp only [List.getElem?_map, List.getElem?_append_right (Nat.le_refl _), Nat.sub_self, List.getElem?_cons_zero] at q
  cases hl : l[pre.length]? with
  | none => rw [hl] at q; cases q
  | some c => rw [hl] at q; simp only [Option.map_some, Option.some.injEq] at q; congr 1; omega
/-- over the signs of a text -/
theorem nz_forS {σ : Type} {l : List Nat} {tx : Tok} {m₀ : PySem.Str → Option Value} (Led : σ → List (Addr × Obj)) (ps : σ → List (PySem.Str × Value)) (stored : List PySem.Str) (P : Nat → σ → Prop) (c₀ : σ)
    (hh : A.handled = none) (F : Fr h₀ env.locals s.heap m₀) (N : News h₀ env.locals s.heap (Led c₀)) (hk : ∀ p ∈ ps c₀, m₀ p.1 = some p.2) (hp : P 0 c₀)
    (turn : ∀ (c : σ) (pre : List Int) (n : Nat) t (u : PySem.Str → Option Value) h tk own, l[pre.length]? = some n → OwnOff own ((Led c₀).map (·.1)) → P pre.length c →
      Fr h₀ env.locals h (fun y => if y = x then some (.str (S [n]) t) else kstB (fun z => if stored.contains z then u z else m₀ z) (ps c) y) → News h₀ env.locals h (Led c ++ own) →
      wpAny (model prog w) A (execs body env) (InvPostN h₀ env.locals (KstS Led ps (fun _ => True) x stored m₀ (fun pre c => P pre.length c) (pre ++ [(n : Int)])) own ((Led c₀).map (·.1)) { s with heap := h, toks := tk } Q) E { s with heap := h, toks := tk })
    (done : ∀ (c : σ) (u : PySem.Str → Option Value) h tk, P l.length c → Fr h₀ env.locals h (fun y => if y = x then u y else kstB (fun z => if stored.contains z then u z else m₀ z) (ps c) y) → News h₀ env.locals h (Led c) → Q .next { s with heap := h, toks := tk }) :
    wpAny (model prog w) A (pyIter (.str (S l) tx)) (fun it s₂ => LoopAtV prog w A h₀ env x body Q E it s₂) E s :=
  KStt.kst_text Led ps (fun _ => True) stored (fun pre c => P pre.length c) c₀ hh F N trivial hk hp
    (fun c pre post n t u h tk own e ho _ hP F N => turn c pre n t u h tk own (codes_at e) ho hP F N)
    (fun c u h tk _ hP F N => done c u h tk (by rw [KStt.codes_length, S_length] at hP; exact hP) F N)
end
end Nz

-- the walk's lines (local)
theorem Nz.reg_mac_0 : True := by
  k_with "nz in" => (refine wpAny_call ?_; k_dflt ktr_enter)
  k_with "nz lit" => with_reducible first | exact Nz.lit_bs | exact Nz.lit_0 | exact Nz.lit_nl | exact Nz.lit_text | exact Nz.lit_x | exact Nz.lit_o | exact Nz.lit_lb | exact Nz.lit_rb | exact Nz.lit_N | exact Nz.lit_c | exact Nz.lit_dollar | exact Nz.lit_at | exact Nz.lit_dot | exact Nz.lit_E | exact Nz.lit_oct | exact Nz.lit_hex | exact Nz.lit_cases | exact Nz.lit_ul | exact Nz.lit_00 | exact Nz.lit_z | exact Nz.lit_bx | exact Nz.lit_bxb | exact Nz.lit_bob | exact Nz.lit_ops | exact Nz.lit_p1 | exact Nz.lit_p2 | exact Nz.lit_p3 | exact Nz.lit_p4 | exact Nz.lit_p5 | exact Nz.lit_p6 | exact Nz.lit_p7 | exact Nz.lit_p8
  k_with "nz sz" => first | with_reducible assumption | ((try simp only [List.length_cons, List.length_nil, List.length_append, List.length_take, List.length_drop, List.length_replicate]); omega)
  k_with "nz nat" => first | (with_reducible assumption) | (with_reducible exact rfl) | (with_reducible exact Nz.nz_c1 _ _) | (with_reducible exact Nz.nz_c0 _) | k_dflt (exact rfl)
  k_with "eval Constant str" => (k_here; (refine' Nz.nz_const (by walk_at "nz lit") ?_))
  k_with "nz slice" => (k_here; (with_reducible show wpAny _ _ (subscriptTail _ (Expr.Slice (some _) (some _) none _) (Value.str _ _) (Value.ref _)) _ _ _); (with_reducible rename Fr _ _ _ _ => F'); (with_reducible rename News _ _ _ _ => N'); first
     | ((with_reducible refine' Nz.nz_sliceG (k := 1) (s := ⟨_, _, _, _, _⟩) F' N' (by walk_at "nz nat") (by k_dflt (exact rfl)) (by k_dflt (walk_at "nz sz")) ?_ (by k_dflt (with_unfolding_all rfl)) (by k_dflt (intro _; with_unfolding_all rfl))); k_whole; intro _ _ _ _ _ _ hY; first
         | (cases Nz.take1K (by with_reducible assumption) hY; clear hY)
         | ((refine' Exists.elim (Nz.take1L hY (by k_dflt (walk_at "nz sz"))) ?_); clear hY; rintro _ ⟨_, e1⟩; subst e1)
         | (rcases Nz.take1C hY with ⟨_, _, _, e1⟩ | ⟨_, e1⟩ <;> subst e1 <;> clear hY))
     | ((with_reducible refine' Nz.nz_sliceG (s := ⟨_, _, _, _, _⟩) F' N' (by walk_at "nz nat") (by walk_at "nz nat") (by k_dflt (walk_at "nz sz")) ?_ (by k_dflt (with_unfolding_all rfl)) (by k_dflt (intro _; with_unfolding_all rfl))); k_whole; intro _ _ _ _ _ _ hY; subst hY)
     | ((with_reducible refine' Nz.nz_slice_le (s := ⟨_, _, _, _, _⟩) F' N' (by k_dflt (walk_at "nz sz")) (by walk_at "nz nat") (by walk_at "nz nat") (by k_dflt (walk_at "nz sz")) ?_ (by k_dflt (with_unfolding_all rfl)) (by k_dflt (intro _; with_unfolding_all rfl))); k_whole; intro _ _ _ _ _))
  k_with "nz sliceto" => (k_here; (with_reducible show wpAny _ _ (subscriptTail _ (Expr.Slice none (some _) none _) (Value.str _ _) (Value.ref _)) _ _ _); (with_reducible rename Fr _ _ _ _ => F'); (with_reducible rename News _ _ _ _ => N'); ((with_reducible refine' Nz.nz_slice_to (s := ⟨_, _, _, _, _⟩) F' N' (by walk_at "nz nat") (by k_dflt (walk_at "nz sz")) ?_ (by k_dflt (with_unfolding_all rfl)) (by k_dflt (intro _; with_unfolding_all rfl))); k_whole; intro _ _ _ _ _))
  k_with "subscriptTail Name Slice str ref" => walk_at "nz sliceto"
  k_with "call builtin:str.lower" => (k_here; first | ((with_reducible refine' Nz.nz_lower (by with_reducible assumption) (by k_dflt (walk_at "nz sz")) ?_); intro _) | refine Nz.Hold.out ?_)
  k_with "call builtin:str.find" => (k_here; first | ((with_reducible refine' Nz.nz_find (by first | walk_at "nz lit" | exact rfl) (by with_reducible assumption) ?_); intro _) | ((with_reducible refine' Nz.nz_find3 (by walk_at "nz nat") (by k_dflt (walk_at "nz sz")) (by with_reducible assumption) (by with_reducible assumption) ?_); intro _) | refine Nz.Hold.out ?_)
  k_with "nz item" => (k_here; (with_reducible show wpAny _ _ (subscriptTail _ _ (Value.str _ _) (Value.int _ _)) _ _ _); first
     | ((with_reducible refine' Nz.nz_itemK (by k_dflt (walk_at "nz sz")) (by walk_at "nz nat") (by with_reducible assumption) ?_ (by k_dflt (with_unfolding_all rfl)) (by k_dflt (intro _; with_unfolding_all rfl))); k_whole)
     | ((with_reducible refine' Nz.nz_item (by k_dflt (walk_at "nz sz")) (by walk_at "nz nat") (by k_dflt (walk_at "nz sz")) ?_ (by k_dflt (with_unfolding_all rfl)) (by k_dflt (intro _; with_unfolding_all rfl))); k_whole; intro _ _))
  k_with "subscriptTail Name Slice str ref" => walk_at "nz slice"
  k_with "subscriptTail" => walk_at "nz item"
  k_with "subscriptTail Name Name str int" => walk_at "nz item"
  k_with "subscriptTail Name BinOp str int" => walk_at "nz item"
  k_with "subscriptTail Name Constant str int" => walk_at "nz item"
  k_with "call builtin:len" => (k_here; (with_reducible show wpAny _ _ (call (Value.builtin _) [Value.str _ _]) _ _ _); (refine' Nz.nz_len (by walk_at "nz sz") ?_))
  k_with "compareOp Eq str str" => (k_here; first | refine Nz.nz_eq1 ?_ | refine Nz.nz_eq10 ?_ | refine Nz.nz_eq00 ?_ | refine Nz.nz_eq01 ?_ | refine Nz.nz_eq ?_)
  k_with "compareOp NotEq str str" => (k_here; first | refine Nz.nz_ne1 ?_ | refine Nz.nz_ne10 ?_ | refine Nz.nz_ne00 ?_ | refine Nz.nz_ne01 ?_ | refine Nz.nz_ne ?_)
  k_with "compareOp In str str" => (k_here; first | ((with_reducible refine' Nz.nz_inF (by with_reducible assumption) ?_)) | ((with_reducible refine' Nz.nz_inT (by with_reducible assumption) ?_)) | refine Nz.nz_in ?_)
  k_with "binaryOp Add str str" => (k_here; first | ((with_reducible refine' Nz.nz_add (by k_dflt (walk_at "nz sz")) ?_); intro _ _) | refine Nz.Hold.out ?_)
  k_with "inplaceOp Add str str" => (k_here; first | ((with_reducible refine' Nz.nz_iadd (by k_dflt (walk_at "nz sz")) ?_); intro _ _) | refine Nz.Hold.out ?_)
  k_with "exec While Compare cons nil" => (k_here; refine Nz.Hold.out ?_)
  k_with "exec While BoolOp cons nil" => (k_here; refine Nz.Hold.out ?_)
  trivial
local macro_rules | `(tactic| is_list) => `(tactic| (refine' News.isList ?nzN ?nzM; (case nzN => k_asm); (case nzM => k_dflt k_mem)))
theorem Nz.reg_mac_1 : True := by
  k_with "nz end" => ((rename Fr _ _ _ _ => eF); (rename News _ _ _ _ => eN); (refine Nz.Hold.mk ?_); first
     | (refine' ksw_end (_, _, _, _) eF eN (fun _ h => h) trivial (by kst_all) (by ksw_same) ?kp ?km))
  k_with "exec For Name Name cons nil" => (k_here; (rename Fr _ _ _ _ => lF'); k_dflt (with_unfolding_all refine' For_invVF lF' (by exact rfl) (by exact rfl) ?_; k_whole))
  k_with "exec For Name Call cons nil" => (k_here; (rename Fr _ _ _ _ => lF'); k_dflt (with_unfolding_all refine' For_invVF lF' (by exact rfl) (by exact rfl) ?_; k_whole))
  k_with "nz tabitem" => (k_here; (with_reducible show wpAny _ _ (subscriptTail _ _ (Value.ref _) (Value.str _ _)) _ _ _); (try kt_k); k_dflt (refine' item_strTab (by kt_ktab) (by with_reducible assumption) ?_; k_whole); intro _ hv'; (refine' Exists.elim (PyProof.V.Flat.str_inv hv') ?_); intro tv ev; subst ev; clear hv')
  k_with "compareOp In str ref" => (k_here; (try kt_k); k_dflt (refine' Nz.nz_inTab (by with_reducible assumption) (by kt_ktab) ?_; k_whole); intro _; (try dsimp only [Option.isSome]))
  k_with "subscriptTail" => walk_at "nz tabitem"
  k_with "getItem ref str" => (k_here; k_dflt (refine' getItem_tab PyProof.V.same_str (strKind_is _ _ _ _) (by k_tabat) (by with_reducible assumption) ?_; k_whole); intro _ hv'; (refine' Exists.elim (PyProof.V.Flat.str_inv hv') ?_); intro tv ev; subst ev; clear hv')
  k_with "nz slicelast" => (k_here; (with_reducible show wpAny _ _ (subscriptTail _ (Expr.Slice (some _) none none _) (Value.str _ _) (Value.ref _)) _ _ _); (with_reducible rename Fr _ _ _ _ => F'); (with_reducible rename News _ _ _ _ => N'); ((with_reducible refine' Nz.nz_slice_last (s := ⟨_, _, _, _, _⟩) F' N' (by k_dflt (exact rfl)) (by decide) (by k_dflt (walk_at "nz sz")) ?_ (by k_dflt (with_unfolding_all rfl)) (by k_dflt (intro _; with_unfolding_all rfl))); k_whole; intro _ _ _ _ _))
  k_with "subscriptTail BinOp" => walk_at "nz slicelast"
  k_with "InvEndN" => refine Nz.Hold.out ?_
  k_with "InvEndG" => refine Nz.Hold.out ?_
  k_with "pyIter str" => (k_here; refine Nz.Hold.out ?_)
  k_with "pyIter ref" => (k_here; refine Nz.Hold.out ?_)
  k_with "KswEnd" => refine Nz.Hold.out ?_
  k_with "call ref" => (k_here; (with_reducible show wpAny _ (Around.deeper callerA _) _ _ _ _); refine Nz.Hold.out ?_)
  trivial
local macro_rules | `(tactic| walk_at $s:str) => `(tactic| k_extra $s)

namespace Nz
def closerN (c : Nat) : Nat := if c = 40 then 41 else if c = 91 then 93 else if c = 123 then 125 else if c = 60 then 62 else c
theorem look_cons (a k : List Nat) (v : PyData) (r : List (PyData × PyData)) : Spec.lookup (PyData.str (S a)) ((PyData.str (S k), v) :: r) = if k = a then some v else Spec.lookup (PyData.str (S a)) r := by
  show (if Spec.same (PyData.str (S k)) (PyData.str (S a)) = true then _ else _) = _
  rw [PyProof.V.same_str]
  have e : (S k = S a) = (k = a) := by simp
  simp only [decide_eq_true_eq, e]
theorem look_nil (a : PyData) : Spec.lookup a [] = none := rfl
theorem closer_flat {v : Value} {c : Nat} (h : PyProof.V.Flat v ((Spec.lookup (PyData.str (S [c])) [(PyData.str ⟨#[40]⟩, PyData.str ⟨#[41]⟩), (PyData.str ⟨#[91]⟩, PyData.str ⟨#[93]⟩), (PyData.str ⟨#[123]⟩, PyData.str ⟨#[125]⟩), (PyData.str ⟨#[60]⟩, PyData.str ⟨#[62]⟩)]).getD (PyData.str (S [c])))) : ∃ u, v = .str (S [closerN c]) u := by
  refine PyProof.V.Flat.str_inv (x := S [closerN c]) ?_
  refine (congrArg (PyProof.V.Flat v) ?_).mp h
  rw [show Spec.lookup (PyData.str (S [c])) [(PyData.str ⟨#[40]⟩, PyData.str ⟨#[41]⟩), (PyData.str ⟨#[91]⟩, PyData.str ⟨#[93]⟩), (PyData.str ⟨#[123]⟩, PyData.str ⟨#[125]⟩), (PyData.str ⟨#[60]⟩, PyData.str ⟨#[62]⟩)] = _ from
    (look_cons _ [40] _ _).trans (congrArg _ ((look_cons _ [91] _ _).trans (congrArg _ ((look_cons _ [123] _ _).trans (congrArg _ (look_cons _ [60] _ _))))))]
  unfold closerN
  simp only [look_nil, List.cons.injEq, and_true, eq_comm (b := c)]
  (repeat' split) <;> first | rfl | omega
set_option maxHeartbeats 4000000 in
theorem ct_closer (w mean mg mb news) (c : Nat) (t : Tok) : Ct w mean mg mb 62 1 8 news [.str (S [c]) t] (RS news (S [closerN c])) := by
  intro dp un gd cn cs a ccd cl outer A₀ base h₀ L m s Q E B F X N T hk hd hu hret
  walk_at "nz in"
  k_steps
  obtain ⟨u, rfl⟩ := closer_flat (by assumption)
  exact hret _ _ _ (by assumption) (by assumption)
end Nz
theorem Nz.reg_p10_closer_0 : True := by
  k_with "call ref" => (k_here; (guard_target =~ wpAny _ _ (call (Value.ref 62) _) _ _ _); (k_dflt (refine' Nz.Ct.use (Nz.ct_closer _ _ _ _ _ _ _) (by k_asm) (by k_asm) (by k_asm) (by k_asm) (by k_asm) (by first | exact rfl | assumption) (by ktr_room) (by ktr_units) ?_)); (unfold Nz.RS; intro _ _ _ _ _; (try dsimp only)))
  trivial
namespace Nz
abbrev tupO (vs : List Value) (n : Nat) : Obj := { cls := .type "tuple", data := .seq vs.toArray n }
def RDel (news : List (Addr × Obj)) (l : List Nat) (k e : Nat) : RetT := fun h₀ L m s Q _ =>
  ∀ (a : Addr) (n : Nat) (u v : Tok) (h' : Heap) (tk' : Nat), Fr h₀ L h' m → News h₀ L h' ((a, tupO [.str (S ((l.drop (k + 1)).take (e - (k + 1)))) u, .int (e + 1 : Nat) v] n) :: news) → (∀ p ∈ news, p.1 < a) → Q (.ref a) { s with heap := h', toks := tk' }
set_option maxHeartbeats 4000000 in
theorem ct_delimited (w mean mg mb news) (l : List Nat) (t : Tok) (k : Nat) (u : Tok) (o : Nat) (e : Nat) (hl : l.length ≤ 1000) (hko : l[k]? = some o) (hR : delimR o (closerN o) (l.drop (k + 1)) 1 (k + 1) = some e) : Ct w mean mg mb 76 2 16 news [.str (S l) t, .int k u] (RDel news l k e) := by
  intro dp un gd cn cs a ccd cl outer A₀ base h₀ L m s Q E B F X N T hk hd hu hret
  have hkl : k < l.length := (List.getElem?_eq_some_iff.mp hko).1
  walk_at "nz in"
  k_steps
  refine Hold.mk ?_
  rename Fr _ _ _ _ => lF'
  rename News _ _ _ _ => lN'
  refine' ksw_while (σ := Int × Int × Tok × Tok) (fun _ => news) (fun c => [(Str.ofString "end", .int c.1 c.2.2.1), (Str.ofString "depth", .int c.2.1 c.2.2.2)]) (fun _ => True) [Str.ofString "sign"]
      (fun c => ∃ n d : Nat, c.1 = n ∧ c.2.1 = d ∧ 1 ≤ d ∧ k + 1 ≤ n ∧ delimR o (closerN o) (l.drop n) d n = some e) (fun c => (l.length + 2 - c.1).toNat) (_, _, _, _) lF' lN' trivial ?kk ?kp ?turn
  case kk => kst_all
  case kp => exact ⟨k + 1, 1, rfl, rfl, by omega, by omega, hR⟩
  clear lF' lN'
  rintro ⟨_, _, t1, t2⟩ kU kH kTk kFacts ⟨n, d, rfl, rfl, hd1, hkn, hI⟩ kFr kNews
  dsimp only [kstB] at kFr
  dsimp only at kNews ⊢
  k_steps
  all_goals first
    | (cases delim_out (by omega) hI)
    | (cases delim_end (by assumption) (by assumption) (by assumption) (by omega) hI
       rename News h₀ _ _ (_ :: _) => hN
       exact hret _ _ _ _ _ _ (by assumption) hN (by assumption))
    | ((rename Fr _ _ _ _ => eF); (rename News _ _ _ _ => eN); (refine Hold.mk ?_); (refine' ksw_end (_, _, _, _) eF eN (fun _ h => h) trivial (by kst_all) (by ksw_same) ?kp ?km); (case km => (dsimp only; omega)); (case kp => (dsimp only; first
      | exact ⟨n + 2, d, by omega, rfl, hd1, by omega, delim_bs (by assumption) (by assumption) hI⟩
      | exact ⟨n + 1, d - 1, by omega, by omega, by omega, by omega, delim_close (by assumption) (by assumption) (by assumption) (by omega) hI⟩
      | exact ⟨n + 1, d + 1, by omega, by omega, by omega, by omega, delim_open (by assumption) (by assumption) (by assumption) (by assumption) hI⟩
      | exact ⟨n + 1, d, by omega, by omega, by omega, by omega, delim_other (by assumption) (by assumption) (by assumption) (by assumption) hI⟩)))
end Nz
theorem Nz.reg_p11_delim_0 : True := by
  k_with "call ref" => (k_here; (guard_target =~ wpAny _ _ (call (Value.ref 76) _) _ _ _); (k_dflt (refine' Nz.Ct.use (Nz.ct_delimited _ _ _ _ _ _ _ _ _ _ _ (by (walk_at "nz sz")) (by assumption) (by assumption)) (by k_asm) (by k_asm) (by k_asm) (by k_asm) (by k_asm) (by first | exact rfl | assumption) (by ktr_room) (by ktr_units) ?_)); (unfold Nz.RDel; intro _ _ _ _ _ _ _ _ l1; (try k_lt l1); (try dsimp only)))
  trivial
namespace Nz
set_option maxHeartbeats 4000000 in
theorem ct_unguarded (w mean mg mb news) (l : List Nat) (t : Tok) (o : Nat) (u : Tok) (pl : Bool) (hl : l.length ≤ 1000) : Ct w mean mg mb 83 2 16 news [.str (S l) t, .str (S [o]) u, .bool pl] (RS news (S (ungR o (closerN o) pl l))) := by
  intro dp un gd cn cs a ccd cl outer A₀ base h₀ L m s Q E B F X N T hk hd hu hret
  walk_at "nz in"
  k_steps
  refine Hold.mk ?_
  rename Fr _ _ _ _ => lF'
  rename News _ _ _ _ => lN'
  refine' ksw_while (σ := Int × Tok × List Nat × Tok) (fun _ => news) (fun c => [(Str.ofString "at", .int c.1 c.2.1), (Str.ofString "out", .str (S c.2.2.1) c.2.2.2)]) (fun _ => True) [Str.ofString "follower"]
      (fun c => ∃ n : Nat, c.1 = n ∧ c.2.2.1.length ≤ n ∧ c.2.2.1 ++ ungR o (closerN o) pl (l.drop n) = ungR o (closerN o) pl l) (fun c => (l.length + 2 - c.1).toNat) (_, _, _, _) lF' lN' trivial ?kk ?kp ?turn
  case kk => kst_all
  case kp => exact ⟨0, rfl, by simp, by simp⟩
  clear lF' lN'
  rintro ⟨_, t1, out, t2⟩ kU kH kTk kFacts ⟨n, rfl, hn, hI⟩ kFr kNews
  dsimp only [kstB] at kFr
  dsimp only at kNews hn hI ⊢
  k_steps
  all_goals first
    | ((rename Fr _ _ _ _ => eF); (rename News _ _ _ _ => eN); (refine Hold.mk ?_); (refine' ksw_end (_, _, _, _) eF eN (fun _ h => h) trivial (by kst_all) (by ksw_same) ?kp ?km); (case km => (dsimp only; omega)); (case kp => (dsimp only; first
      | exact ⟨n + 1, by omega, by simp only [List.length_append, List.length_cons, List.length_nil]; omega, ung_last (by assumption) (by omega) hI⟩
      | exact ⟨n + 1, by omega, by simp only [List.length_append, List.length_cons, List.length_nil]; omega, ung_plain (by assumption) (by assumption) hI⟩
      | exact ⟨n + 2, by omega, by simp only [List.length_append, List.length_cons, List.length_nil]; omega, ung_take (by assumption) (by assumption) (by assumption) (.inl (by assumption)) hI⟩
      | exact ⟨n + 2, by omega, by simp only [List.length_append, List.length_cons, List.length_nil]; omega, ung_take (by assumption) (by assumption) (by assumption) (.inr (.inl (by assumption))) hI⟩
      | exact ⟨n + 2, by omega, by simp only [List.length_append, List.length_cons, List.length_nil]; omega, ung_take (by assumption) (by assumption) (by assumption) (.inr (.inr ⟨by assumption, by assumption⟩)) hI⟩
      | exact ⟨n + 2, by omega, by simp only [List.length_append, List.length_take, List.length_drop]; omega, ung_both (by assumption) (by assumption) (by assumption) (by assumption) (by assumption) (by rintro ⟨q1, q2⟩; first | exact absurd q2 (by assumption) | (rename pl = false => hp; rw [hp] at q1; cases q1) | exact absurd q1 (by assumption)) hI⟩)))
    | (have e : out = ungR o (closerN o) pl l := by (rw [List.drop_of_length_le (by omega)] at hI; simpa [ungR] using hI)
       rw [← e] at hret
       exact hret _ _ _ (by assumption) (by assumption))
end Nz
theorem Nz.reg_p12_ung_0 : True := by
  k_with "call ref" => (k_here; (guard_target =~ wpAny _ _ (call (Value.ref 83) _) _ _ _); (k_dflt (refine' Nz.Ct.use (Nz.ct_unguarded _ _ _ _ _ _ _ _ _ _ (by (walk_at "nz sz"))) (by k_asm) (by k_asm) (by k_asm) (by k_asm) (by k_asm) (by first | exact rfl | assumption) (by ktr_room) (by ktr_units) ?_)); (unfold Nz.RS; intro _ _ _ _ _; (try dsimp only)))
  trivial
namespace Nz
def RTup2 (news : List (Addr × Obj)) (f : Tok → Tok → List Value) : RetT := fun h₀ L m s Q _ =>
  ∀ (a : Addr) (n : Nat) (u v : Tok) (h' : Heap) (tk' : Nat), Fr h₀ L h' m → News h₀ L h' ((a, tupO (f u v) n) :: news) → (∀ p ∈ news, p.1 < a) → Q (.ref a) { s with heap := h', toks := tk' }
set_option maxHeartbeats 4000000 in
theorem ct_digits (w mean mg mb news) (l : List Nat) (t : Tok) (k : Nat) (u : Tok) (most base' : Nat) (u2 u3 : Tok) (cs : List Nat) {ki mi bi : Int} (hki : ki = k) (hmi : mi = most) (hbi : bi = base') (hl : l.length ≤ 1000) (hcs : (l.drop k).take most = cs) (hds : ∀ c ∈ cs, ∃ d, dig c = some d ∧ d < base') (hb1 : 1 ≤ base') (hb2 : base' ≤ 16) (hV : digV base' cs < 2 ^ 40) (hm : most ≤ 100) (hk1 : k ≤ 1000) :
    Ct w mean mg mb 97 2 16 news [.str (S l) t, .int ki u, .int mi u2, .int bi u3] (RTup2 news fun v1 v2 => [.int (digV base' cs : Nat) v1, .int (k + cs.length : Nat) v2]) := by
  intro dp un gd cn cs' a ccd cl outer A₀ base h₀ L m s Q E B F X N T hk hd hu hret
  subst hki hmi hbi
  walk_at "nz in"
  k_steps
  refine Hold.mk ?_
  rename Fr _ _ _ _ => lF'
  rename News _ _ _ _ => lN'
  have hlen : cs.length = min most (l.length - k) := by rw [← hcs]; simp
  refine' ksw_while (σ := Int × Tok × Int × Tok) (fun _ => news) (fun c => [(Str.ofString "end", .int c.1 c.2.1), (Str.ofString "value", .int c.2.2.1 c.2.2.2)]) (fun _ => True) [Str.ofString "digit"]
      (fun c => ∃ n v : Nat, c.1 = n ∧ c.2.2.1 = v ∧ k ≤ n ∧ n ≤ k + cs.length ∧ v = digV base' (cs.take (n - k))) (fun c => (l.length + 2 - c.1).toNat) (_, _, _, _) lF' lN' trivial ?kk ?kp ?turn
  case kk => kst_all
  case kp => exact ⟨k, 0, rfl, rfl, by omega, by omega, by simp [digV]⟩
  clear lF' lN'
  rintro ⟨_, t1, _, t2⟩ kU kH kTk kFacts ⟨n, v, rfl, rfl, hn, hn2, hv⟩ kFr kNews
  dsimp only [kstB] at kFr
  dsimp only at kNews hn ⊢
  have hv2 : v < 1099511627776 := by rw [hv]; exact Nat.lt_of_le_of_lt (digV_take base' cs hb1 _) hV
  by_cases hin : n < k + cs.length
  · have hc : cs[n - k]? = l[n]? := by rw [← hcs, List.getElem?_take, List.getElem?_drop, if_pos (by omega)]; congr 1; omega
    obtain ⟨c, hcc⟩ : ∃ c, l[n]? = some c := ⟨l[n]'(by omega), by simp⟩
    obtain ⟨d, hd1, hd2⟩ := hds c (List.mem_of_getElem? (hc.trans hcc))
    have hlo := dig_lower hd1
    have hfi := dig_find hd1
    have hst := digV_step (b := base') (hc.trans hcc) hd1
    have hvb : v * base' < 2 ^ 60 := by
      have := Nat.mul_le_mul (Nat.le_of_lt hv2) hb2
      omega
    k_steps
    all_goals first
      | ((rename Fr _ _ _ _ => eF); (rename News _ _ _ _ => eN); (refine Hold.mk ?_); (refine' ksw_end (_, _, _, _) eF eN (fun _ h => h) trivial (by kst_all) (by ksw_same) ?kp ?km); (case km => (dsimp only; omega)); (case kp => (dsimp only; exact ⟨n + 1, v * base' + d, by omega, by rw [Int.natCast_add, Int.natCast_mul], by omega, by omega, by rw [show n + 1 - k = n - k + 1 by omega, hst, ← hv]⟩)))
      | (exfalso; omega)
  · have e : n = k + cs.length := by omega
    have e2 : v = digV base' cs := by rw [hv, e, Nat.add_sub_cancel_left, List.take_length]
    k_steps
    all_goals first
      | (subst e2; subst e; rename News h₀ _ _ (_ :: _) => hN; exact hret _ _ _ _ _ _ (by assumption) hN (by assumption))
      | (exfalso; omega)
end Nz
theorem Nz.reg_p13_dig_0 : True := by
  k_with "call ref" => (k_here; (guard_target =~ wpAny _ _ (call (Value.ref 97) _) _ _ _); (k_dflt (refine' Nz.Ct.use (Nz.ct_digits _ _ _ _ _ _ _ _ _ _ _ _ _ _ (by (walk_at "nz nat")) (by (walk_at "nz nat")) (by (walk_at "nz nat")) (by (walk_at "nz sz")) (by assumption) (by assumption) (by omega) (by omega) (by assumption) (by omega) (by omega)) (by k_asm) (by k_asm) (by k_asm) (by k_asm) (by k_asm) (by first | exact rfl | assumption) (by ktr_room) (by ktr_units) ?_)); (unfold Nz.RTup2; intro _ _ _ _ _ _ _ _ l1; (try k_lt l1); (try dsimp only)))
  trivial
namespace Nz
set_option maxHeartbeats 4000000 in
theorem ct_coded (w mean mg mb news) (v : Nat) (t : Tok) (hv : v < 55296) : Ct w mean mg mb 104 2 16 news [.int v t] (RS news (S [v])) := by
  intro dp un gd cn cs a ccd cl outer A₀ base h₀ L m s Q E B F X N T hk hd hu hret
  walk_at "nz in"
  k_steps
  exact hret _ _ _ (by assumption) (by assumption)
set_option maxHeartbeats 4000000 in
theorem ct_line (w mean mg mb news) (l : List Nat) (t : Tok) (k : Nat) (u : Tok) (hl : l.length ≤ 1000) : Ct w mean mg mb 69 2 16 news [.str (S l) t, .int k u] (RI news (1 + Txt.count (S (l.take k)) (S [10]))) := by
  intro dp un gd cn cs a ccd cl outer A₀ base h₀ L m s Q E B F X N T hk hd hu hret
  walk_at "nz in"
  k_steps
  exact hret _ _ _ (by assumption) (by assumption)
end Nz
theorem Nz.reg_p14_cod_0 : True := by
  k_with "call ref" => (k_here; (guard_target =~ wpAny _ _ (call (Value.ref 104) _) _ _ _); (k_dflt (refine' Nz.Ct.use (Nz.ct_coded _ _ _ _ _ _ _ (by omega)) (by k_asm) (by k_asm) (by k_asm) (by k_asm) (by k_asm) (by first | exact rfl | assumption) (by ktr_room) (by ktr_units) ?_)); (unfold Nz.RS; intro _ _ _ _ _; (try dsimp only)))
  k_with "call ref" => (k_here; (guard_target =~ wpAny _ _ (call (Value.ref 69) _) _ _ _); (k_dflt (refine' Nz.Ct.use (Nz.ct_line _ _ _ _ _ _ _ _ _ (by (walk_at "nz sz"))) (by k_asm) (by k_asm) (by k_asm) (by k_asm) (by k_asm) (by first | exact rfl | assumption) (by ktr_room) (by ktr_units) ?_)); (unfold Nz.RI; intro _ _ _ _ _; (try dsimp only)))
  trivial
namespace Nz
theorem drop2 {h₀ h : Heap} {L : Addr} {x y : Addr × Obj} {r : List (Addr × Obj)} (N : News h₀ L h (x :: y :: r)) : News h₀ L h (x :: r) := fun p hp => N p (by rcases List.mem_cons.mp hp with rfl | q; exact .head _; exact .tail _ (.tail _ q))
theorem drop1 {h₀ h : Heap} {L : Addr} {x : Addr × Obj} {r : List (Addr × Obj)} (N : News h₀ L h (x :: r)) : News h₀ L h r := fun p hp => N p (.tail _ hp)
set_option maxHeartbeats 4000000 in
theorem ct_braced (w mean mg mb news) (l : List Nat) (t : Tok) (k : Nat) (u : Tok) (base' : Nat) (u3 : Tok) (e : Nat) (cs : List Nat) {ki bi : Int} (hki : ki = k) (hbi : bi = base') (hl : l.length ≤ 1000) (he : l[e]? = some 125) (hk0 : k + 1 ≤ e) (hno : ∀ j, k ≤ j → j < e → l[j]? ≠ some 125)
    (hcs : ((l.take e).drop (k + 1)).take 8 = cs) (hds : ∀ c ∈ cs, ∃ d, dig c = some d ∧ d < base') (hb1 : 1 ≤ base') (hb2 : base' ≤ 16) (hV : digV base' cs < 55296) :
    Ct w mean mg mb 111 4 40 news [.str (S l) t, .int ki u, .int bi u3] (RTup2 news fun v1 v2 => [.str (S [digV base' cs]) v1, .int (e + 1 : Nat) v2]) := by
  intro dp un gd cn cs' a ccd cl outer A₀ base h₀ L m s Q E B F X N T hk hd hu hret
  have hel : e < l.length := (List.getElem?_eq_some_iff.mp he).1
  have hke : k ≤ e := by omega
  have hV2 : digV base' cs < 2 ^ 40 := by omega
  have hlt : (l.take e).length ≤ 1000 := by simp only [List.length_take]; omega
  subst hki hbi
  walk_at "nz in"
  k_steps
  rename News h₀ _ _ (_ :: _ :: _) => hN
  exact hret _ _ _ _ _ _ (by assumption) (drop2 hN) (ktn_ltOf (And.right (by assumption)))
end Nz
theorem Nz.reg_p15_brace_0 : True := by
  k_with "call ref" => (k_here; (guard_target =~ wpAny _ _ (call (Value.ref 111) _) _ _ _); (k_dflt (refine' Nz.Ct.use (Nz.ct_braced _ _ _ _ _ _ _ _ _ _ _ _ _ (by (walk_at "nz nat")) (by (walk_at "nz nat")) (by (walk_at "nz sz")) (by assumption) (by assumption) (by assumption) (by assumption) (by assumption) (by decide) (by decide) (by assumption)) (by k_asm) (by k_asm) (by k_asm) (by k_asm) (by k_asm) (by first | exact rfl | assumption) (by ktr_room) (by ktr_units) ?_)); (unfold Nz.RTup2; intro _ _ _ _ _ _ _ _ l1; (try k_lt l1); (try dsimp only)))
  trivial
namespace Nz
theorem S1_ne {c x : Nat} (e : S [c] = ⟨#[x]⟩) (h : c ≠ x) : False := h (by simpa using e)
set_option maxHeartbeats 4000000 in
theorem ct_esc_self (w mean mg mb news) (l : List Nat) (t : Tok) (k : Nat) (u : Tok) (c : Nat) (hl : l.length ≤ 1000) (hs : l[k + 1]? = some c) (hc : c = 92 ∨ c = 36 ∨ c = 64) {ki : Int} (hki : ki = k) :
    Ct w mean mg mb 118 6 60 news [.str (S l) t, .int ki u] (RTup2 news fun v1 v2 => [.str (S [c]) v1, .int (k + 2 : Nat) v2]) := by
  intro dp un gd cn cs' a ccd cl outer A₀ base h₀ L m s Q E B F X N T hk hd hu hret
  subst hki
  rcases hc with rfl | rfl | rfl
  all_goals
    walk_at "nz in"
    k_steps
    exact hret _ _ _ _ _ _ (by assumption) (by assumption) (by assumption)
set_option maxHeartbeats 4000000 in
theorem ct_esc_short (w mean mg mb news) (l : List Nat) (t : Tok) (k : Nat) (u : Tok) (c r : Nat) (hl : l.length ≤ 1000) (hs : l[k + 1]? = some c) (hc : c = 110 ∧ r = 10 ∨ c = 116 ∧ r = 9 ∨ c = 101 ∧ r = 27) {ki : Int} (hki : ki = k) :
    Ct w mean mg mb 118 6 60 news [.str (S l) t, .int ki u] (RTup2 news fun v1 v2 => [.str (S [r]) v1, .int (k + 2 : Nat) v2]) := by
  intro dp un gd cn cs' a ccd cl outer A₀ base h₀ L m s Q E B F X N T hk hd hu hret
  subst hki
  rcases hc with ⟨rfl, rfl⟩ | ⟨rfl, rfl⟩ | ⟨rfl, rfl⟩
  all_goals
    walk_at "nz in"
    k_steps
    exact hret _ _ _ _ _ _ (by assumption) (by assumption) (by assumption)
end Nz

namespace Nz
set_option maxHeartbeats 4000000 in
theorem ct_esc_oct (w mean mg mb news) (l : List Nat) (t : Tok) (k : Nat) (u : Tok) (c : Nat) (cs : List Nat) (hl : l.length ≤ 1000) (hs : l[k + 1]? = some c) (hc1 : 48 ≤ c) (hc2 : c ≤ 55)
    (hcs : (l.drop (k + 1)).take 3 = cs) (hds : ∀ c ∈ cs, ∃ d, dig c = some d ∧ d < 8) (hV : digV 8 cs < 55296) {ki : Int} (hki : ki = k) :
    Ct w mean mg mb 118 6 60 news [.str (S l) t, .int ki u] (RTup2 news fun v1 v2 => [.str (S [digV 8 cs]) v1, .int (k + 1 + cs.length : Nat) v2]) := by
  intro dp un gd cn cs' a ccd cl outer A₀ base h₀ L m s Q E B F X N T hk hd hu hret
  have hV2 : digV 8 cs < 2 ^ 40 := by omega
  have hmem : c ∈ [48,49,50,51,52,53,54,55] := by simp; omega
  have hkl : k + 1 < l.length := (List.getElem?_eq_some_iff.mp hs).1
  subst hki
  walk_at "nz in"
  k_steps
  all_goals first
    | (exfalso; exact S1_ne (by assumption) (by omega))
    | (exfalso; exact absurd hmem (by assumption))
    | (rename News h₀ _ _ (_ :: _ :: _) => hN
       exact hret _ _ _ _ _ _ (by assumption) (drop2 hN) (ktn_ltOf (And.right (by assumption))))
end Nz

namespace Nz
set_option maxHeartbeats 4000000 in
theorem ct_esc_xb (w mean mg mb news) (l : List Nat) (t : Tok) (k : Nat) (u : Tok) (e : Nat) (cs : List Nat) (hl : l.length ≤ 1000) (hs : l[k + 1]? = some 120) (hs2 : l[k + 2]? = some 123) (hk0 : k + 2 + 1 ≤ e) (he : l[e]? = some 125) (hno : ∀ j, k + 2 ≤ j → j < e → l[j]? ≠ some 125)
    (hcs : ((l.take e).drop (k + 2 + 1)).take 8 = cs) (hds : ∀ c ∈ cs, ∃ d, dig c = some d ∧ d < 16) (hV : digV 16 cs < 55296) {ki : Int} (hki : ki = k) :
    Ct w mean mg mb 118 6 60 news [.str (S l) t, .int ki u] (RTup2 news fun v1 v2 => [.str (S [digV 16 cs]) v1, .int (e + 1 : Nat) v2]) := by
  intro dp un gd cn cs' a ccd cl outer A₀ base h₀ L m s Q E B F X N T hk hd hu hret
  subst hki
  walk_at "nz in"
  k_steps
  all_goals first
    | exact hret _ _ _ _ _ _ (by assumption) (by assumption) (by assumption)
    | exact hret _ _ _ _ _ _ (by assumption) (by assumption) (ktn_ltOf (by assumption))
set_option maxHeartbeats 4000000 in
theorem ct_esc_ob (w mean mg mb news) (l : List Nat) (t : Tok) (k : Nat) (u : Tok) (e : Nat) (cs : List Nat) (hl : l.length ≤ 1000) (hs : l[k + 1]? = some 111) (hs2 : l[k + 2]? = some 123) (hk0 : k + 2 + 1 ≤ e) (he : l[e]? = some 125) (hno : ∀ j, k + 2 ≤ j → j < e → l[j]? ≠ some 125)
    (hcs : ((l.take e).drop (k + 2 + 1)).take 8 = cs) (hds : ∀ c ∈ cs, ∃ d, dig c = some d ∧ d < 8) (hV : digV 8 cs < 55296) {ki : Int} (hki : ki = k) :
    Ct w mean mg mb 118 6 60 news [.str (S l) t, .int ki u] (RTup2 news fun v1 v2 => [.str (S [digV 8 cs]) v1, .int (e + 1 : Nat) v2]) := by
  intro dp un gd cn cs' a ccd cl outer A₀ base h₀ L m s Q E B F X N T hk hd hu hret
  subst hki
  walk_at "nz in"
  k_steps
  all_goals first
    | exact hret _ _ _ _ _ _ (by assumption) (by assumption) (by assumption)
    | exact hret _ _ _ _ _ _ (by assumption) (by assumption) (ktn_ltOf (by assumption))
set_option maxHeartbeats 4000000 in
theorem ct_esc_xx (w mean mg mb news) (l : List Nat) (t : Tok) (k : Nat) (u : Tok) (c : Nat) (cs : List Nat) (hl : l.length ≤ 1000) (hs : l[k + 1]? = some 120) (hs2 : l[k + 2]? = some c) (hc : c ≠ 123)
    (hcs : (l.drop (k + 2)).take 2 = cs) (hds : ∀ c ∈ cs, ∃ d, dig c = some d ∧ d < 16) (hV : digV 16 cs < 55296) {ki : Int} (hki : ki = k) :
    Ct w mean mg mb 118 6 60 news [.str (S l) t, .int ki u] (RTup2 news fun v1 v2 => [.str (S [digV 16 cs]) v1, .int (k + 2 + cs.length : Nat) v2]) := by
  intro dp un gd cn cs' a ccd cl outer A₀ base h₀ L m s Q E B F X N T hk hd hu hret
  have hV2 : digV 16 cs < 2 ^ 40 := by omega
  have hkl : k + 2 < l.length := (List.getElem?_eq_some_iff.mp hs2).1
  subst hki
  walk_at "nz in"
  k_steps
  all_goals first
    | (exfalso; exact absurd (by assumption) hc)
    | (rename News h₀ _ _ (_ :: _ :: _) => hN
       exact hret _ _ _ _ _ _ (by assumption) (drop2 hN) (ktn_ltOf (And.right (by assumption))))
end Nz

namespace Nz
/-- the sign that an escape at k stands for, and the place behind it -/
inductive Esc (l : List Nat) (k : Nat) : Nat → Nat → Prop
  | self {c : Nat} (hs : l[k + 1]? = some c) (hc : c = 92 ∨ c = 36 ∨ c = 64) : Esc l k c (k + 2)
  | short {c r : Nat} (hs : l[k + 1]? = some c) (hc : c = 110 ∧ r = 10 ∨ c = 116 ∧ r = 9 ∨ c = 101 ∧ r = 27) : Esc l k r (k + 2)
  | oct {c : Nat} {cs : List Nat} (hs : l[k + 1]? = some c) (hc1 : 48 ≤ c) (hc2 : c ≤ 55) (hcs : (l.drop (k + 1)).take 3 = cs) (hds : ∀ c ∈ cs, ∃ d, dig c = some d ∧ d < 8) (hV : digV 8 cs < 55296) : Esc l k (digV 8 cs) (k + 1 + cs.length)
  | xb {e : Nat} {cs : List Nat} (hs : l[k + 1]? = some 120) (hs2 : l[k + 2]? = some 123) (hk0 : k + 2 + 1 ≤ e) (he : l[e]? = some 125) (hno : ∀ j, k + 2 ≤ j → j < e → l[j]? ≠ some 125)
    (hcs : ((l.take e).drop (k + 2 + 1)).take 8 = cs) (hds : ∀ c ∈ cs, ∃ d, dig c = some d ∧ d < 16) (hV : digV 16 cs < 55296) : Esc l k (digV 16 cs) (e + 1)
  | ob {e : Nat} {cs : List Nat} (hs : l[k + 1]? = some 111) (hs2 : l[k + 2]? = some 123) (hk0 : k + 2 + 1 ≤ e) (he : l[e]? = some 125) (hno : ∀ j, k + 2 ≤ j → j < e → l[j]? ≠ some 125)
    (hcs : ((l.take e).drop (k + 2 + 1)).take 8 = cs) (hds : ∀ c ∈ cs, ∃ d, dig c = some d ∧ d < 8) (hV : digV 8 cs < 55296) : Esc l k (digV 8 cs) (e + 1)
  | xx {c : Nat} {cs : List Nat} (hs : l[k + 1]? = some 120) (hs2 : l[k + 2]? = some c) (hc : c ≠ 123)
    (hcs : (l.drop (k + 2)).take 2 = cs) (hds : ∀ c ∈ cs, ∃ d, dig c = some d ∧ d < 16) (hV : digV 16 cs < 55296) : Esc l k (digV 16 cs) (k + 2 + cs.length)
def EscOk (w : World) (mean : ExcName → Option Value) (mg mb : PySem.Str → Option Value) (l : List Nat) (k r e : Nat) : Prop :=
  ∀ news t u (ki : Int), ki = k → Ct w mean mg mb 118 6 60 news [.str (S l) t, .int ki u] (RTup2 news fun v1 v2 => [.str (S [r]) v1, .int (e : Nat) v2])
theorem EscOk.ct {w mean mg mb l k r e} (h : EscOk w mean mg mb l k r e) (news t u) {ki : Int} (hk : ki = k) : Ct w mean mg mb 118 6 60 news [.str (S l) t, .int ki u] (RTup2 news fun v1 v2 => [.str (S [r]) v1, .int (e : Nat) v2]) := h news t u ki hk
theorem ct_escok {w mean mg mb l} {k : Nat} {r e} (news t u) {ki : Int} (hk : ki = (k : Int)) (h : EscOk w mean mg mb l k r e) : Ct w mean mg mb 118 6 60 news [.str (S l) t, .int ki u] (RTup2 news fun v1 v2 => [.str (S [r]) v1, .int (e : Nat) v2]) := h news t u ki hk
theorem esc_ok (w mean mg mb) {l : List Nat} {k r e : Nat} (hl : l.length ≤ 1000) (h : Esc l k r e) : EscOk w mean mg mb l k r e := by
  intro news t u ki hki
  cases h with
  | self hs hc => exact ct_esc_self _ _ _ _ _ _ _ _ _ _ hl hs hc hki
  | short hs hc => exact ct_esc_short _ _ _ _ _ _ _ _ _ _ _ hl hs hc hki
  | oct hs hc1 hc2 hcs hds hV => exact ct_esc_oct _ _ _ _ _ _ _ _ _ _ _ hl hs hc1 hc2 hcs hds hV hki
  | xb hs hs2 hk0 he hno hcs hds hV => exact ct_esc_xb _ _ _ _ _ _ _ _ _ _ _ hl hs hs2 hk0 he hno hcs hds hV hki
  | ob hs hs2 hk0 he hno hcs hds hV => exact ct_esc_ob _ _ _ _ _ _ _ _ _ _ _ hl hs hs2 hk0 he hno hcs hds hV hki
  | xx hs hs2 hc hcs hds hV => exact ct_esc_xx _ _ _ _ _ _ _ _ _ _ _ hl hs hs2 hc hcs hds hV hki
theorem esc_follows {l : List Nat} {k r e : Nat} (h : Esc l k r e) : ∃ c, l[k + 1]? = some c ∧ c ∉ [85,76,70,81,117,108,69] := by
  cases h with
  | @self c hs hc => exact ⟨_, hs, by rcases hc with rfl | rfl | rfl <;> decide⟩
  | short hs hc => exact ⟨_, hs, by rcases hc with ⟨rfl, _⟩ | ⟨rfl, _⟩ | ⟨rfl, _⟩ <;> decide⟩
  | @oct c cs hs hc1 hc2 => exact ⟨_, hs, by simp; omega⟩
  | xb hs => exact ⟨_, hs, by decide⟩
  | ob hs => exact ⟨_, hs, by decide⟩
  | xx hs => exact ⟨_, hs, by decide⟩
theorem esc_on {l : List Nat} {k r e : Nat} (h : Esc l k r e) : k < e := by
  cases h <;> omega
end Nz
theorem Nz.reg_p19_escok_0 : True := by
  k_with "call ref" => (k_here; (guard_target =~ wpAny _ _ (call (Value.ref 118) _) _ _ _); (k_dflt (refine' Nz.Ct.use (Nz.ct_escok _ _ _ (by (walk_at "nz nat")) (by assumption)) (by k_asm) (by k_asm) (by k_asm) (by k_asm) (by k_asm) (by first | exact rfl | assumption) (by ktr_room) (by ktr_units) ?_)); (unfold Nz.RTup2; intro _ _ _ _ _ _ _ _ l1; (try k_lt l1); (try dsimp only)))
  trivial
namespace Nz
abbrev textS : PySem.Str := S [116, 101, 120, 116]
/-- the stack of `parts_of` outside every case: st → inn → pa -/
abbrev stk (st inn pa : Addr) (ps : List Value) (n1 n2 n3 : Nat) (t0 : Tok) (r : List (Addr × Obj)) : List (Addr × Obj) :=
  (st, listOf #[.ref inn] n1) :: (inn, listOf #[.str (S []) t0, .ref pa] n2) :: (pa, listOf ps.toArray n3) :: r
def RNone (nx : Nat → List (Addr × Obj)) : RetT := fun h₀ L m s Q _ => ∀ (n : Nat) (h' : Heap) (tk' : Nat), Fr h₀ L h' m → News h₀ L h' (nx n) → Q .none { s with heap := h', toks := tk' }
def RNone1 (nx : Addr → Tok → Tok → Nat → Nat → List (Addr × Obj)) (lo : Addr) : RetT := fun h₀ L m s Q _ => ∀ (q : Addr) (u v : Tok) (n n' : Nat) (h' : Heap) (tk' : Nat), Fr h₀ L h' m → News h₀ L h' (nx q u v n n') → @LT.lt Nat _ lo q → Q .none { s with heap := h', toks := tk' }
section
local macro_rules | `(tactic| k_all) => `(tactic| assumption)
set_option maxHeartbeats 4000000 in
theorem ct_add0 (w mean mg mb news) (p st inn pa : Addr) (x : List Nat) (t1 t2 t0 : Tok) (n n1 n2 n3 : Nat) (h1 : @LT.lt Nat _ pa inn) (h2 : @LT.lt Nat _ inn st) (h3 : @LT.lt Nat _ st p) (hn : ∀ q ∈ news, q.1 ≠ pa) :
    Ct w mean mg mb 244 2 20 ((p, tupO [.str textS t1, .str (S x) t2] n) :: stk st inn pa [] n1 n2 n3 t0 news) [.ref st, .ref p]
      (RNone fun n4 => (p, tupO [.str textS t1, .str (S x) t2] n) :: stk st inn pa [.ref p] n1 n2 n4 t0 news) := by
  intro dp un gd cn cs a ccd cl outer A₀ base h₀ L m s Q E B F X N T hk hd hu hret
  walk_at "nz in"
  k_steps
  all_goals exact hret _ _ _ (by assumption) (by assumption)
set_option maxHeartbeats 4000000 in
theorem ct_add1 (w mean mg mb news) (p q st inn pa : Addr) (acc x : List Nat) (t1 t2 t3 t4 t0 : Tok) (n n' n1 n2 n3 : Nat) (h1 : @LT.lt Nat _ pa inn) (h2 : @LT.lt Nat _ inn st) (h3 : @LT.lt Nat _ st p) (h4 : @LT.lt Nat _ st q) (hn : ∀ q ∈ news, q.1 ≠ pa) (hsz : acc.length ≤ 1000) (hsz2 : x.length ≤ 1000) :
    Ct w mean mg mb 244 2 20 ((p, tupO [.str textS t1, .str (S x) t2] n) :: (q, tupO [.str textS t3, .str (S acc) t4] n') :: stk st inn pa [.ref q] n1 n2 n3 t0 news) [.ref st, .ref p]
      (RNone1 (fun q' u v n5 n4 => (q', tupO [.str textS u, .str (S (acc ++ x)) v] n5) :: stk st inn pa [.ref q'] n1 n2 n4 t0 news) st) := by
  intro dp un gd cn cs a ccd cl outer A₀ base h₀ L m s Q E B F X N T hk hd hu hret
  walk_at "nz in"
  k_steps
  all_goals
    rename News h₀ _ _ _ => hN
    exact hret _ _ _ _ _ _ _ (by assumption) (drop2 (drop2 hN)) (by omega)
end
-- the walk keeps its lines by the NUMBER of macros alone: that number must not come back
local macro_rules | `(tactic| walk_at "nz pad") => `(tactic| skip)
/-- a call of add_part: the stack with `acc` gathered, then with `acc ++ x` -/
def StkIs (st : Addr) (acc : List Nat) (led news : List (Addr × Obj)) : Prop :=
  ∃ (inn pa : Addr) (n1 n2 n3 : Nat) (t0 : Tok), @LT.lt Nat _ pa inn ∧ @LT.lt Nat _ inn st ∧ (∀ q ∈ news, q.1 < pa) ∧
    ((acc = [] ∧ led = stk st inn pa [] n1 n2 n3 t0 news) ∨ ∃ (q : Addr) (n' : Nat) (t3 t4 : Tok), acc ≠ [] ∧ @LT.lt Nat _ st q ∧ led = (q, tupO [.str textS t3, .str (S acc) t4] n') :: stk st inn pa [.ref q] n1 n2 n3 t0 news)
def RStk (st : Addr) (acc : List Nat) (news : List (Addr × Obj)) : RetT := fun h₀ L m s Q _ => ∀ (led' : List (Addr × Obj)) (h' : Heap) (tk' : Nat), StkIs st acc led' news → Fr h₀ L h' m → News h₀ L h' led' → Q .none { s with heap := h', toks := tk' }
theorem ct_add (w mean mg mb news led) (p st : Addr) (acc x : List Nat) (t1 t2 : Tok) (n : Nat) (hS : StkIs st acc led news) (hp : ∀ q ∈ led, q.1 < p) (hx : x ≠ []) (hsz : acc.length ≤ 1000) (hsz2 : x.length ≤ 1000) :
    Ct w mean mg mb 244 2 20 ((p, tupO [.str textS t1, .str (S x) t2] n) :: led) [.ref st, .ref p] (RStk st (acc ++ x) news) := by
  obtain ⟨inn, pa, n1, n2, n3, t0, h1, h2, hn, h⟩ := hS
  rcases h with ⟨rfl, rfl⟩ | ⟨q, n', t3, t4, _, h4, rfl⟩
  · intro dp un gd cn cs a ccd cl outer A₀ base h₀ L m s Q E B F X N T hk hd hu hret
    refine ct_add0 w mean mg mb news p st inn pa x t1 t2 t0 n n1 n2 n3 h1 h2 (hp _ (.head _)) (fun q hq => Nat.ne_of_lt (hn q hq)) dp un gd cn cs a ccd cl outer A₀ base h₀ L m s Q E B F X N T hk hd hu ?_
    intro n4 h' tk' F' N'
    exact hret _ h' tk' ⟨inn, pa, n1, n2, n4, t0, h1, h2, hn, .inr ⟨p, n, t1, t2, by simpa using hx, hp _ (.head _), rfl⟩⟩ F' N'
  · intro dp un gd cn cs a ccd cl outer A₀ base h₀ L m s Q E B F X N T hk hd hu hret
    refine ct_add1 w mean mg mb news p q st inn pa acc x t1 t2 t3 t4 t0 n n' n1 n2 n3 h1 h2 (hp _ (.tail _ (.head _))) h4 (fun q hq => Nat.ne_of_lt (hn q hq)) hsz hsz2 dp un gd cn cs a ccd cl outer A₀ base h₀ L m s Q E B F X N T hk hd hu ?_
    intro q' u v n5 n4 h' tk' F' N' hlt
    exact hret _ h' tk' ⟨inn, pa, n1, n2, n4, t0, h1, h2, hn, .inr ⟨q', n5, u, v, by simp [hx], hlt, rfl⟩⟩ F' N'
end Nz
local macro_rules | `(tactic| walk_at "call ref") => `(tactic| (k_here; (k_dflt (refine' Nz.Ct.use (Nz.ct_add _ _ _ _ _ _ _ _ _ _ _ _ _ ?hS ?hp ?hx ?hsz ?hsz2) ?k1 ?k2 ?k3 ?k4 ?k5 ?kK ?kd ?ku ?_; (case hS => with_reducible assumption); (case hp => (first | with_reducible assumption | exact ktn_ltOf (by with_reducible assumption) | exact ktn_ltOf (And.right (by assumption)))); (case hsz => with_reducible assumption); (case k4 => (first | k_asm | exact Nz.drop2 (by k_asm))); (case hx => exact List.cons_ne_nil _ _); (case hsz2 => exact (by decide : 1 ≤ 1000)); (case k1 => k_asm); (case k2 => k_asm); (case k3 => k_asm); (case k5 => k_asm); (case kK => first | exact rfl | assumption); (case kd => ktr_room); (case ku => ktr_units))); (unfold Nz.RStk; intro _ _ _ hStk _ _; (try dsimp only))))

namespace Nz
def RTake (st : Addr) (acc : List Nat) (news : List (Addr × Obj)) (e : Nat) : RetT := fun h₀ L m s Q _ => ∀ (led' : List (Addr × Obj)) (v : Tok) (h' : Heap) (tk' : Nat), StkIs st acc led' news → Fr h₀ L h' m → News h₀ L h' led' → Q (.int e v) { s with heap := h', toks := tk' }
set_option maxHeartbeats 4000000 in
theorem ct_take_esc (w mean mg mb news led) (st : Addr) (acc : List Nat) (l : List Nat) (t u : Tok) (k r e : Nat) {ki : Int} (hki : ki = k) (hS : StkIs st acc led news) (hl : l.length ≤ 1000) (hacc : acc.length ≤ 1000) (h92 : l[k]? = some 92) (hE : EscOk w mean mg mb l k r e) :
    Ct w mean mg mb 279 8 80 led [.ref st, .str (S l) t, .int ki u, .bool false] (RTake st (acc ++ [r]) news e) := by
  intro dp un gd cn cs' a ccd cl outer A₀ base h₀ L m s Q E B F X N T hk hd hu hret
  subst hki
  walk_at "nz in"
  k_steps
  all_goals exact hret _ _ _ _ (by with_reducible assumption) (by assumption) (by assumption)
set_option maxHeartbeats 4000000 in
theorem ct_take_plain (w mean mg mb news led) (st : Addr) (acc : List Nat) (l : List Nat) (t u : Tok) (k c : Nat) {ki : Int} (hki : ki = k) (hS : StkIs st acc led news) (hl : l.length ≤ 1000) (hacc : acc.length ≤ 1000) (hc : l[k]? = some c) (h92 : c ≠ 92) (h36 : c ≠ 36) (h64 : c ≠ 64) :
    Ct w mean mg mb 279 8 80 led [.ref st, .str (S l) t, .int ki u, .bool false] (RTake st (acc ++ [c]) news (k + 1)) := by
  intro dp un gd cn cs' a ccd cl outer A₀ base h₀ L m s Q E B F X N T hk hd hu hret
  subst hki
  walk_at "nz in"
  k_steps
  all_goals exact hret _ _ _ _ (by with_reducible assumption) (by assumption) (by assumption)
end Nz
theorem Nz.reg_p21_take_0 : True := by
  k_with "call ref" => (k_here; (guard_target =~ wpAny _ _ (call (Value.ref 279) _) _ _ _); (k_dflt (refine' Nz.Ct.use (Nz.ct_take_esc _ _ _ _ _ _ _ _ _ _ _ _ _ _ (by (walk_at "nz nat")) (by with_reducible assumption) (by with_reducible assumption) (by with_reducible assumption) (by with_reducible assumption) (by with_reducible assumption)) (by k_asm) (by k_asm) (by k_asm) (by k_asm) (by k_asm) (by first | exact rfl | assumption) (by ktr_room) (by ktr_units) ?_)); (unfold Nz.RTake; intro _ _ _ _ hStk _ _; (try dsimp only)))
  k_with "call ref" => (k_here; (guard_target =~ wpAny _ _ (call (Value.ref 279) _) _ _ _); (k_dflt (refine' Nz.Ct.use (Nz.ct_take_plain _ _ _ _ _ _ _ _ _ _ _ _ _ (by (walk_at "nz nat")) (by with_reducible assumption) (by with_reducible assumption) (by with_reducible assumption) (by with_reducible assumption) (by with_reducible assumption) (by with_reducible assumption) (by with_reducible assumption)) (by k_asm) (by k_asm) (by k_asm) (by k_asm) (by k_asm) (by first | exact rfl | assumption) (by ktr_room) (by ktr_units) ?_)); (unfold Nz.RTake; intro _ _ _ _ hStk _ _; (try dsimp only)))
  trivial
namespace Nz
/-- a sign of the text, plain or by an escape -/
def Piece (l : List Nat) (k r e : Nat) : Prop := (l[k]? = some r ∧ r ≠ 92 ∧ r ≠ 36 ∧ r ≠ 64 ∧ e = k + 1) ∨ (l[k]? = some 92 ∧ Esc l k r e)
inductive Dec (l : List Nat) : Nat → List Nat → Prop
  | done {k : Nat} : l.length ≤ k → Dec l k []
  | step {k r e : Nat} {out : List Nat} : Piece l k r e → Dec l e out → Dec l k (r :: out)
theorem Piece.lt {l : List Nat} {k r e : Nat} (h : Piece l k r e) : k < l.length := by
  rcases h with ⟨h, _⟩ | ⟨h, _⟩ <;> exact (List.getElem?_eq_some_iff.mp h).1
theorem Piece.on {l : List Nat} {k r e : Nat} (h : Piece l k r e) : k < e := by
  rcases h with ⟨_, _, _, _, rfl⟩ | ⟨_, h⟩
  · omega
  · exact esc_on h
theorem Dec.len {l : List Nat} {k : Nat} {out : List Nat} (h : Dec l k out) : k ≤ l.length → k + out.length ≤ l.length := by
  induction h with
  | done h => intro _; simp; omega
  | @step k r e out p d ih =>
    intro _
    have := p.lt
    have := p.on
    by_cases q : e ≤ l.length
    · have := ih q; simp; omega
    · cases d with
      | done => simp; omega
      | step p' _ => have := p'.lt; omega
def RParts (news : List (Addr × Obj)) (out : List Nat) : RetT := fun h₀ L m s Q _ =>
  (out = [] → ∀ (pa : Addr) (n : Nat) (h' : Heap) (tk' : Nat), Fr h₀ L h' m → News h₀ L h' ((pa, listOf #[] n) :: news) → (∀ p ∈ news, p.1 < pa) → Q (.ref pa) { s with heap := h', toks := tk' }) ∧
  (out ≠ [] → ∀ (pa q : Addr) (n n' : Nat) (t u : Tok) (h' : Heap) (tk' : Nat), Fr h₀ L h' m → News h₀ L h' ((q, tupO [.str textS t, .str (S out) u] n') :: (pa, listOf #[.ref q] n) :: news) → (∀ p ∈ news, p.1 < pa) → @LT.lt Nat _ pa q → Q (.ref pa) { s with heap := h', toks := tk' })
set_option maxHeartbeats 4000000 in
theorem ct_parts (w mean mg mb news) (l : List Nat) (t : Tok) (out : List Nat) (hl : l.length ≤ 1000) (hD : Dec l 0 out) :
    Ct w mean mg mb 286 10 100 news [.str (S l) t, .bool false] (RParts news out) := by
  intro dp un gd cn cs' a ccd cl outer A₀ base h₀ L m s Q E B F X N T hk hd hu hret
  walk_at "nz in"
  k_steps
  refine Hold.mk ?_
  rename Fr _ _ _ _ => lF'
  rename News _ _ _ (_ :: _) => lN'
  rename _ ∧ _ ∧ AllLt _ _ => hlt
  obtain ⟨hlt1, hlt2, hlt3⟩ := hlt
  rename _ ∧ AllLt _ _ => hlt
  obtain ⟨hlt4, hlt5⟩ := hlt
  have hout := hD.len (by omega)
  rename_i st _ _ _
  refine' ksw_while (σ := Int × Tok × List (Addr × Obj)) (fun c => c.2.2) (fun c => [(Str.ofString "at", .int c.1 c.2.1)]) (fun _ => True) [Str.ofString "follower"]
      (fun c => ∃ (n : Nat) (acc rest : List Nat), c.1 = n ∧ StkIs st acc c.2.2 news ∧ acc ++ rest = out ∧ Dec l n rest) (fun c => (l.length + 2 - c.1).toNat) (_, _, _) lF' lN' trivial ?kk ?kp ?turn
  case kk => kst_all
  case kp => exact ⟨0, [], out, rfl, ⟨_, _, _, _, _, _, hlt4, hlt1, by assumption, .inl ⟨rfl, rfl⟩⟩, rfl, hD⟩
  clear lF' lN'
  rintro ⟨_, t1, led⟩ kU kH kTk kFacts ⟨n, acc, rest, rfl, hSt, hcat, hDn⟩ kFr kNews
  dsimp only [kstB] at kFr
  dsimp only at kNews hSt ⊢
  have hacc : acc.length ≤ 1000 := by
    have := congrArg List.length hcat
    simp only [List.length_append] at this
    omega
  cases hDn with
  | done hn =>
    have e : acc = out := by simpa using hcat
    obtain ⟨inn, pa, n1, n2, n3, t0, q1, q2, q3, q4⟩ := hSt
    rcases q4 with ⟨rfl, rfl⟩ | ⟨q, n', t3, t4, q6, q5, rfl⟩
    all_goals
      k_steps
      refine Hold.mk ?_
      rename Fr _ _ _ _ => lF2
      rename News _ _ _ _ => lN2
      refine' ksw_while (σ := Unit) (fun _ => _) (fun _ => []) (fun _ => True) [] (fun _ => True) (fun _ => 0) () lF2 lN2 trivial (List.forall_mem_nil _) trivial ?_
      clear lF2 lN2
      intro cU kU kH kTk kFacts kP kFr kNews
      dsimp only [kstB] at kFr
      dsimp only at kNews ⊢
      k_steps
      rename News h₀ _ _ _ => hN
      first
        | (subst e; exact hret.1 rfl _ _ _ _ (by assumption) (drop1 (drop1 hN)) q3)
        | (subst e; exact hret.2 q6 _ _ _ _ _ _ _ _ (by assumption) (drop2 (drop2 hN)) q3 (Nat.lt_trans q1 (Nat.lt_trans q2 q5)))
  | @step _ r e rest hp hd' =>
    have hnl := hp.lt
    have hne := hp.on
    rcases hp with ⟨hc, p92, p36, p64, he⟩ | ⟨h92, hE⟩
    · subst he
      k_steps
      all_goals
        rename Fr _ _ _ _ => eF
        rename News _ _ _ _ => eN
        refine Hold.mk ?_
        exact ksw_end (((n + 1 : Nat) : Int), _, _) eF eN (fun _ h => h) trivial (by kst_all) (by ksw_same) ⟨_, acc ++ [r], rest, rfl, by with_reducible assumption, by rw [← hcat]; simp, hd'⟩ (by dsimp only; omega)
    · have hEo := esc_ok w mean mg mb hl hE
      obtain ⟨f, hf, hfn⟩ := esc_follows hE
      have hfl := (List.getElem?_eq_some_iff.mp hf).1
      k_steps
      all_goals
        rename Fr _ _ _ _ => eF
        rename News _ _ _ _ => eN
        refine Hold.mk ?_
        exact ksw_end ((e : Int), _, _) eF eN (fun _ h => h) trivial (by kst_all) (by ksw_same) ⟨_, acc ++ [r], rest, rfl, by with_reducible assumption, by rw [← hcat]; simp, hd'⟩ (by dsimp only; omega)
end Nz
theorem Nz.reg_p22_parts_0 : True := by
  k_with "call ref" => (k_here; (guard_target =~ wpAny _ _ (call (Value.ref 286) _) _ _ _); (k_dflt (refine' Nz.Ct.use (Nz.ct_parts _ _ _ _ _ _ _ _ (by (walk_at "nz sz")) (by assumption)) (by k_asm) (by k_asm) (by k_asm) (by k_asm) (by k_asm) (by first | exact rfl | assumption) (by ktr_room) (by ktr_units) ?_)); (unfold Nz.RParts; refine' ⟨fun hE _ _ _ _ _ _ l1 => ?_, fun hE _ _ _ _ _ _ _ _ _ _ l1 l2 => ?_⟩ <;> ((try k_lt l1); (try k_lt2 l2); (try dsimp only))))
  trivial
namespace Nz
set_option maxHeartbeats 4000000 in
theorem ct_plain (w mean mg mb news) (l : List Nat) (t : Tok) (out : List Nat) (hl : l.length ≤ 1000) (hD : Dec l 0 out) :
    Ct w mean mg mb 293 12 120 news [.str (S l) t] (RS news (S out)) := by
  intro dp un gd cn cs' a ccd cl outer A₀ base h₀ L m s Q E B F X N T hk hd hu hret
  have hout := hD.len (by omega)
  walk_at "nz in"
  k_steps
  · refine Hold.mk ?_
    rename Fr _ _ _ _ => lF
    rename News _ _ _ (_ :: _) => lN
    refine nz_forL (σ := List Nat × Tok) (vs := []) (fun c => _) (fun c => [(Str.ofString "out", .str (S c.1) c.2)]) [] (fun i c => c.1 = []) ([], _) (by rfl) (fun c => .head _) lF lN (by kst_all) rfl ?_ ?_
    · intro c i v u h tk own hv
      cases hv
    · rintro ⟨_, t1⟩ u h tk rfl kFr kNews
      dsimp only [kstB] at kFr
      clear lF lN
      rename out = [] => hE
      subst hE
      k_steps
      rename News h₀ _ _ _ => hN
      exact hret _ _ _ (by assumption) (drop1 hN)
  · refine Hold.mk ?_
    rename Fr _ _ _ _ => lF
    rename News _ _ _ (_ :: _ :: _) => lN
    refine nz_forL (σ := List Nat × Tok) (fun c => _) (fun c => [(Str.ofString "out", .str (S c.1) c.2)]) [] (fun i c => c.1 = if i = 0 then [] else out) ([], _) (by rfl) (fun c => .tail _ (.head _)) lF lN (by kst_all) rfl ?_ ?_
    · rintro ⟨o2, t1⟩ i v u h tk own hv hoff hP kFr kNews
      clear lF lN
      cases i with
      | succ i => cases hv
      | zero =>
        cases hv
        have hP' : o2 = [] := hP
        subst hP'
        dsimp only [kstB] at kFr
        simp only [List.cons_append] at kNews
        k_steps
        all_goals
          rename Fr _ _ _ _ => eF
          rename News _ _ _ _ => eN
          refine Hold.mk ?_
          exact nz_endG (out, _) eF eN (by intro p hp; simp only [List.mem_cons, List.mem_append] at hp ⊢; rcases hp with h | h | h <;> simp [h]) (by intro p hp; simp [hp]) hoff (by kst_all) (by kst_same) rfl
    · rintro ⟨o2, t1⟩ u h tk hP kFr kNews
      have hP' : o2 = out := hP
      subst hP'
      dsimp only [kstB] at kFr
      clear lF lN
      k_steps
      rename News h₀ _ _ _ => hN
      exact hret _ _ _ (by assumption) (drop1 (drop1 hN))
end Nz

namespace Nz
set_option maxHeartbeats 4000000 in
theorem ct_readq (w mean mg mb news) (l : List Nat) (t : Tok) (o : Nat) (u : Tok) (hl : l.length ≤ 1000) : Ct w mean mg mb 90 4 40 news [.str (S l) t, .str (S [o]) u] (RS news (S (ungR o (closerN o) true l))) := by
  intro dp un gd cn cs a ccd cl outer A₀ base h₀ L m s Q E B F X N T hk hd hu hret
  walk_at "nz in"
  k_steps
  exact hret _ _ _ (by assumption) (by assumption)
end Nz
theorem Nz.reg_p24_readq_0 : True := by
  k_with "call ref" => (k_here; (guard_target =~ wpAny _ _ (call (Value.ref 90) _) _ _ _); (k_dflt (refine' Nz.Ct.use (Nz.ct_readq _ _ _ _ _ _ _ _ _ (by (walk_at "nz sz"))) (by k_asm) (by k_asm) (by k_asm) (by k_asm) (by k_asm) (by first | exact rfl | assumption) (by ktr_room) (by ktr_units) ?_)); (unfold Nz.RS; intro _ _ _ _ _; (try dsimp only)))
  trivial
namespace Nz
def drawN (ns : List Int) (k n : Nat) : Nat := ((if k < ns.length then ns.getD k 0 else ((3 * k * k + k + 2 : Nat) : Int)) % (n : Int)).toNat
theorem drawN_lt {ns : List Int} {k n : Nat} (h : 0 < n) : drawN ns k n < n := by
  unfold drawN
  have h1 := Int.emod_lt_of_pos (if k < ns.length then ns.getD k 0 else ((3 * k * k + k + 2 : Nat) : Int)) (by omega : (0 : Int) < n)
  omega
theorem draw_in {ns : List Int} {k n : Nat} (hn : 1 ≤ n) (h : k < ns.length) : ((drawN ns k n : Nat) : Int) = (ns.getD k 0).fmod (n : Int) := by
  unfold drawN
  rw [if_pos h, Int.fmod_eq_emod_of_nonneg _ (by omega)]
  have := Int.emod_nonneg (ns.getD k 0) (by omega : (n : Int) ≠ 0)
  omega
theorem draw_out {ns : List Int} {k n : Nat} (hn : 1 ≤ n) (h : ¬ k < ns.length) : ((drawN ns k n : Nat) : Int) = (3 * (k : Int) * k + k + 2).fmod (n : Int) := by
  unfold drawN
  rw [if_neg h, Int.fmod_eq_emod_of_nonneg _ (by omega)]
  have e : ((3 * k * k + k + 2 : Nat) : Int) = 3 * (k : Int) * k + k + 2 := by simp
  rw [e]
  have := Int.emod_nonneg (3 * (k : Int) * k + k + 2) (by omega : (n : Int) ≠ 0)
  omega
def RTape (tp sl : Addr) (vs : List Value) (n2 : Nat) (k : Nat) (news : List (Addr × Obj)) (r : Nat) : RetT := fun h₀ L m s Q _ => ∀ (u t : Tok) (n1 : Nat) (h' : Heap) (tk' : Nat), Fr h₀ L h' m → News h₀ L h' ((tp, listOf #[.ref sl, .int (k + 1 : Nat) t] n1) :: (sl, listOf vs.toArray n2) :: news) → Q (.int r u) { s with heap := h', toks := tk' }
section
local macro_rules | `(tactic| k_all) => `(tactic| with_reducible assumption)
set_option maxHeartbeats 4000000 in
theorem ct_take (w mean mg mb news) (tp sl : Addr) (vs : List Value) (ns : List Int) (k n : Nat) (n1 n2 : Nat) (t u : Tok) {ni : Int} (hni : ni = n) (hI : IntsAre vs ns) (hlen : ns.length ≤ 1000) (hk1 : k ≤ 1000) (hn : 1 ≤ n) (hn2 : n ≤ 100) (ht : @LT.lt Nat _ sl tp) (hne : ∀ q ∈ news, q.1 ≠ tp)   {r : Nat} (hr : drawN ns k n = r) :
    Ct w mean mg mb 308 2 20 ((tp, listOf #[.ref sl, .int k t] n1) :: (sl, listOf vs.toArray n2) :: news) [.ref tp, .int ni u] (RTape tp sl vs n2 k news r) := by
  intro dp un gd cn cs' a ccd cl outer A₀ base h₀ L m s Q E B F X N T hk hd hu hret
  subst hni
  subst hr
  walk_at "nz in"
  k_steps
  · refine Eq.subst (motive := fun z => Q (Value.int z _) _) (draw_in (ns := ns) (k := k) hn (by omega)) ?_
    exact hret _ _ _ _ _ (by assumption) (by assumption)
  · refine Eq.subst (motive := fun z => Q (Value.int z _) _) (draw_out (ns := ns) (k := k) hn (by omega)) ?_
    exact hret _ _ _ _ _ (by assumption) (by assumption)
end
end Nz
theorem Nz.reg_p30_take_0 : True := by
  k_with "call ref" => (k_here; (guard_target =~ wpAny _ _ (call (Value.ref 308) _) _ _ _); (k_dflt (refine' Nz.Ct.use2 (by k_asm) (Nz.ct_take _ _ _ _ _ _ _ _ _ _ _ _ _ _ _ (by (walk_at "nz nat")) (by with_reducible assumption) (by (first | with_reducible assumption | omega)) (by (first | omega | exact Nat.zero_le _ | decide)) (by (first | decide | omega)) (by (first | decide | omega)) (by (first | with_reducible assumption | omega)) (by (first | with_reducible assumption | walk_at "nz ne")) (by (first | with_reducible assumption | exact rfl))) (by k_asm) (by k_asm) (by k_asm) (by k_asm) (by first | exact rfl | assumption) (by ktr_room) (by ktr_units) ?_)); (unfold Nz.RTape; intro _ _ _ _ _ _ _; (try dsimp only)))
  trivial
namespace Nz
abbrev endsD : List (PyData × PyData) := [(.str (S [40]), .str (S [41])), (.str (S [123]), .str (S [125])), (.str (S [60]), .str (S [62])), (.str (S [91]), .str (S [93])), (.str (S [39]), .str (S [39])), (.str (S [47]), .str (S [47])), (.str (S [124]), .str (S [124])), (.str (S [126]), .str (S [126]))]
abbrev opsL : List Nat := [40,123,60,91,39,47,124,126]
theorem ends_all : ∀ o ∈ opsL, Spec.lookup (PyData.str (S [o])) endsD = some (PyData.str (S [closerN o])) := by
  intro o ho
  simp only [opsL, List.mem_cons, List.not_mem_nil, or_false] at ho
  rcases ho with rfl | rfl | rfl | rfl | rfl | rfl | rfl | rfl <;> rfl
def RDict (w : World) (news : List (Addr × Obj)) (D : List (PyData × PyData)) : RetT := fun h₀ L m s Q _ => ∀ (d : Addr) (o : Obj) (kvs : List (PySem.Str × Value)) (h' : Heap) (tk' : Nat), Fr h₀ L h' m → News h₀ L h' ((d, o) :: news) → (∀ p ∈ news, p.1 < d) → (d == sysModules) = false → Obj.IsDictOf (PySem.strKind PR w) o kvs → PyProof.V.FlatPairs PyData.str kvs D → Q (.ref d) { s with heap := h', toks := tk' }
set_option maxHeartbeats 4000000 in
theorem ct_ends (w mean mg mb news) : Ct w mean mg mb 300 2 20 news [] (RDict w news endsD) := by
  intro dp un gd cn cs' a ccd cl outer A₀ base h₀ L m s Q E B F X N T hk hd hu hret
  walk_at "nz in"
  k_steps
  exact hret _ _ _ _ _ (by assumption) (by assumption) (by assumption) (by assumption) (by assumption) (by assumption)
end Nz
theorem Nz.reg_p31_ends_0 : True := by
  k_with "call ref" => (k_here; (guard_target =~ wpAny _ _ (call (Value.ref 300) _) _ _ _); (k_dflt (refine' Nz.Ct.use (Nz.ct_ends _ _ _ _ _) (by k_asm) (by k_asm) (by k_asm) (by k_asm) (by k_asm) (by first | exact rfl | assumption) (by ktr_room) (by ktr_units) ?_)); (unfold Nz.RDict; intro _ _ _ _ _ _ _ l1 _ _ _; (try k_lt l1); (try dsimp only)))
  trivial
namespace Nz
/-- the figures of a number, the least at the right -/
def basedR (b : Nat) : Nat → Nat → List Nat → List Nat
  | 0, _, acc => acc
  | f + 1, n, acc => if n = 0 ∧ acc ≠ [] then acc else basedR b f (n / b) (hexS.getD (n % b) 0 :: acc)
theorem basedR_stop {b f : Nat} {acc : List Nat} (h : acc ≠ []) : basedR b f 0 acc = acc := by
  cases f with
  | zero => rfl
  | succ f => rw [basedR, if_pos ⟨rfl, h⟩]
theorem basedR_go {b f n : Nat} {acc : List Nat} (h : 0 < n ∨ acc = []) : basedR b (f + 1) n acc = basedR b f (n / b) (hexS.getD (n % b) 0 :: acc) := by
  rw [basedR, if_neg]
  rintro ⟨h1, h2⟩
  rcases h with h | h
  · omega
  · exact h2 h
theorem pow_div {k b f : Nat} (hb : 8 ≤ b) (h : k < 8 ^ (f + 1)) : k / b < 8 ^ f :=
  Nat.lt_of_le_of_lt (Nat.div_le_div_left hb (by omega)) (Nat.div_lt_of_lt_mul (by rw [Nat.pow_succ] at h; omega))
set_option maxHeartbeats 4000000 in
theorem ct_based (w mean mg mb news) (n b : Nat) (t u : Tok) {bi : Int} (hbi : bi = b) (hn : n ≤ 100000) (hb : b = 8 ∨ b = 16) :
    Ct w mean mg mb 315 2 20 news [.int n t, .int bi u] (RS news (S (basedR b 20 n []))) := by
  intro dp un gd cn cs' a ccd cl outer A₀ base h₀ L m s Q E B F X N T hk hd hu hret
  subst hbi
  have hb1 : 8 ≤ b := by omega
  have hb2 : b ≤ 16 := by omega
  walk_at "nz in"
  k_steps
  refine Hold.mk ?_
  rename Fr _ _ _ _ => lF'
  rename News _ _ _ _ => lN'
  refine' ksw_while (σ := Int × Tok × List Nat × Tok) (fun _ => news) (fun c => [(Str.ofString "number", .int c.1 c.2.1), (Str.ofString "text", .str (S c.2.2.1) c.2.2.2)]) (fun _ => True) []
      (fun c => ∃ (k f : Nat), c.1 = k ∧ k ≤ 100000 ∧ k < 8 ^ f ∧ c.2.2.1.length + f ≤ 20 ∧ (c.2.2.1 = [] → 1 ≤ f) ∧ basedR b f k c.2.2.1 = basedR b 20 n []) (fun c => (c.1.toNat + 1 - min 1 c.2.2.1.length)) (_, _, _, _) lF' lN' trivial ?kk ?kp ?turn
  case kk => kst_all
  case kp => exact ⟨n, 20, rfl, hn, by omega, by simp, by simp, rfl⟩
  clear lF' lN'
  rintro ⟨_, t1, tx, t2⟩ kU kH kTk kFacts ⟨k, f, rfl, hk1, hk2, hlen, hne, hI⟩ kFr kNews
  dsimp only [kstB] at kFr
  dsimp only at kNews hlen hne hI ⊢
  have hfm : (k : Int).fmod b = ((k % b : Nat) : Int) := by simp [Int.fmod_eq_emod_of_nonneg]
  have hfd : (k : Int).fdiv b = ((k / b : Nat) : Int) := by simp [Int.fdiv_eq_ediv_of_nonneg]
  have hmb : k % b < 16 := Nat.lt_of_lt_of_le (Nat.mod_lt _ (by omega)) hb2
  obtain ⟨d, hd16⟩ : ∃ d, hexS[k % b]? = some d := ⟨hexS[k % b]'hmb, by simp⟩
  have hdd : hexS.getD (k % b) 0 = d := by rw [List.getD_eq_getElem?_getD, hd16]; rfl
  have hdiv : 0 < k → k / b < k := fun h => Nat.div_lt_self h (by omega)
  have hle : k / b ≤ k := Nat.div_le_self _ _
  k_steps
  all_goals first
    | (have e : tx = basedR b 20 n [] := by
         rw [← hI]
         have h0 : k = 0 := by omega
         subst h0
         exact (basedR_stop (of_decide_eq_false (by assumption))).symm
       rw [← e] at hret
       exact hret _ _ _ (by assumption) (by assumption))
    | (rename Fr _ _ _ _ => eF
       rename News _ _ _ _ => eN
       refine Hold.mk ?_
       have hgo : 0 < k ∨ tx = [] := by first | exact .inl (by omega) | exact .inr (of_decide_eq_true (by assumption))
       obtain ⟨f', rfl⟩ : ∃ f', f = f' + 1 := by
         cases f with
         | zero => rcases hgo with h | h; simp at hk2; omega; have := hne h; omega
         | succ f' => exact ⟨f', rfl⟩
       rw [hfd] at eF
       refine ksw_end (((k / b : Nat) : Int), _, d :: tx, _) eF eN (fun _ h => h) trivial (by kst_all) (by ksw_same) ⟨k / b, f', rfl, by omega, pow_div hb1 hk2, by simp only [List.length_cons]; omega, (fun h => absurd h (List.cons_ne_nil _ _)), ?_⟩ ?_
       · rw [← hI, basedR_go hgo, hdd]
       · dsimp only
         simp only [Int.toNat_natCast, List.length_append, List.length_cons, List.length_nil]
         rcases hgo with h | h
         · have := hdiv h; omega
         · have h0 : tx.length = 0 := by rw [h]; rfl
           omega)
end Nz
theorem Nz.reg_p32_based_0 : True := by
  k_with "call ref" => (k_here; (guard_target =~ wpAny _ _ (call (Value.ref 315) _) _ _ _); (k_dflt (refine' Nz.Ct.use (Nz.ct_based _ _ _ _ _ _ _ _ _ (by (walk_at "nz nat")) (by (first | with_reducible assumption | omega)) (by (first | exact .inl rfl | exact .inr rfl))) (by k_asm) (by k_asm) (by k_asm) (by k_asm) (by k_asm) (by first | exact rfl | assumption) (by ktr_room) (by ktr_units) ?_)); (unfold Nz.RS; intro _ _ _ _ _; (try dsimp only)))
  trivial
namespace Nz
/-- what `_law_in_q` writes for a text -/
def inqR (o c : Nat) (l : List Nat) : List Nat := l.flatMap fun x => if x = o ∨ x = c ∨ x = 92 then [92, x] else [x]
theorem inqR_step {o c x i : Nat} {l : List Nat} (h : l[i]? = some x) : inqR o c (l.take (i + 1)) = inqR o c (l.take i) ++ (if x = o ∨ x = c ∨ x = 92 then [92, x] else [x]) := by
  rw [List.take_add_one, h]
  simp [inqR]
theorem inqR_len (o c : Nat) (l : List Nat) : (inqR o c l).length ≤ 2 * l.length := by
  induction l with
  | nil => simp [inqR]
  | cons x r ih =>
    have e : inqR o c (x :: r) = (if x = o ∨ x = c ∨ x = 92 then [92, x] else [x]) ++ inqR o c r := by simp [inqR]
    rw [e]
    split <;> simp <;> omega
set_option maxHeartbeats 4000000 in
theorem ct_inq (w mean mg mb news) (tp : Value) (l : List Nat) (t : Tok) (o : Nat) (u : Tok) (hl : l.length ≤ 100) (ho : o ∈ opsL) (htp : handedIn tp = true) : Ct w mean mg mb 322 4 60 news [tp, .str (S l) t, .str (S [o]) u] (RS news (S (inqR o (closerN o) l))) := by
  intro dp un gd cn cs' a ccd cl outer A₀ base h₀ L m s Q E B F X N T hk hd hu hret
  have hlk := ends_all o ho
  walk_at "nz in"
  k_steps
  refine Hold.mk ?_
  rename Fr _ _ _ _ => lF
  rename News _ _ _ _ => lN
  refine nz_forS (σ := List Nat × Tok) (fun _ => news) (fun c => [(Str.ofString "raw", .str (S c.1) c.2)]) [] (fun i c => c.1 = inqR o (closerN o) (l.take i)) ([], _) (by rfl) lF lN (by kst_all) (by simp [inqR]) ?_ ?_
  · rintro ⟨raw, t1⟩ pre x t2 kU h tk own hx hoff hP kFr kNews
    have hP' : raw = inqR o (closerN o) (l.take pre.length) := hP
    have hrl := inqR_len o (closerN o) (l.take pre.length)
    rw [← hP', List.length_take] at hrl
    clear lF lN
    dsimp only [kstB] at kFr
    k_steps
    all_goals
      rename Fr _ _ _ _ => eF
      rename News _ _ _ _ => eN
      refine Hold.mk ?_
      refine kst_end (_, _) eF eN (by intro p hp; simp [hp]) (by intro p hp; simp [hp]) rfl trivial (by kst_all) (by kst_same) ?_
      show _ = inqR o (closerN o) (l.take (pre ++ [(x : Int)]).length)
      rw [List.length_append, List.length_singleton, inqR_step hx, ← hP']
      first
        | rw [if_pos (.inl (by assumption)), List.append_assoc]; rfl
        | rw [if_pos (.inr (.inl (by assumption))), List.append_assoc]; rfl
        | rw [if_pos (.inr (.inr (by assumption))), List.append_assoc]; rfl
        | rw [if_neg (by rintro (q | q | q) <;> contradiction)]
  · rintro ⟨raw, t1⟩ kU h tk hP kFr kNews
    have hP' : raw = inqR o (closerN o) l := by have := hP; rw [List.take_length] at this; exact this
    subst hP'
    clear lF lN
    dsimp only [kstB] at kFr
    k_steps
    exact hret _ _ _ (by assumption) (by assumption)
end Nz
theorem Nz.reg_p33_inq_0 : True := by
  k_with "call ref" => (k_here; (guard_target =~ wpAny _ _ (call (Value.ref 322) _) _ _ _); (k_dflt (refine' Nz.Ct.use (Nz.ct_inq _ _ _ _ _ _ _ _ _ _ (by (first | with_reducible assumption | omega)) (by with_reducible assumption) (by exact rfl)) (by k_asm) (by k_asm) (by k_asm) (by k_asm) (by k_asm) (by first | exact rfl | assumption) (by ktr_room) (by ktr_units) ?_)); (unfold Nz.RS; intro _ _ _ _ _; (try dsimp only)))
  trivial
namespace Nz
theorem basedR_len (b : Nat) : ∀ (f n : Nat) (acc : List Nat), (basedR b f n acc).length ≤ acc.length + f := by
  intro f
  induction f with
  | zero => intro n acc; simp [basedR]
  | succ f ih =>
    intro n acc
    rw [basedR]
    split
    · omega
    · have := ih (n / b) (hexS.getD (n % b) 0 :: acc)
      simp only [List.length_cons] at this
      omega
def namedN (c : Nat) : Option (List Nat) := if c = 10 then some [92, 110] else if c = 9 then some [92, 116] else if c = 27 then some [92, 101] else if c = 92 then some [92, 92] else if c = 36 then some [92, 36] else if c = 64 then some [92, 64] else none
abbrev namedD : List (PyData × PyData) := [(.str (S [10]), .str (S [92, 110])), (.str (S [9]), .str (S [92, 116])), (.str (S [27]), .str (S [92, 101])), (.str (S [92]), .str (S [92, 92])), (.str (S [36]), .str (S [92, 36])), (.str (S [64]), .str (S [92, 64]))]
theorem named_cases (x : Nat) : (namedN x = none ∧ Spec.lookup (PyData.str (S [x])) namedD = none) ∨ ∃ e, namedN x = some e ∧ Spec.lookup (PyData.str (S [x])) namedD = some (PyData.str (S e)) ∧ e.length = 2 ∧ x < 128 := by
  by_cases h1 : x = 10
  · subst h1; exact .inr ⟨[92, 110], rfl, rfl, rfl, by decide⟩
  by_cases h2 : x = 9
  · subst h2; exact .inr ⟨[92, 116], rfl, rfl, rfl, by decide⟩
  by_cases h3 : x = 27
  · subst h3; exact .inr ⟨[92, 101], rfl, rfl, rfl, by decide⟩
  by_cases h4 : x = 92
  · subst h4; exact .inr ⟨[92, 92], rfl, rfl, rfl, by decide⟩
  by_cases h5 : x = 36
  · subst h5; exact .inr ⟨[92, 36], rfl, rfl, rfl, by decide⟩
  by_cases h6 : x = 64
  · subst h6; exact .inr ⟨[92, 64], rfl, rfl, rfl, by decide⟩
  refine .inl ⟨by simp [namedN, h1, h2, h3, h4, h5, h6], ?_⟩
  have ne : ∀ {k : Nat}, x ≠ k → ¬ ([k] = [x]) := fun h q => h (by simpa using q.symm)
  exact (look_cons _ [10] _ _).trans ((if_neg (ne h1)).trans ((look_cons _ [9] _ _).trans ((if_neg (ne h2)).trans ((look_cons _ [27] _ _).trans ((if_neg (ne h3)).trans ((look_cons _ [92] _ _).trans ((if_neg (ne h4)).trans ((look_cons _ [36] _ _).trans ((if_neg (ne h5)).trans ((look_cons _ [64] _ _).trans (if_neg (ne h6))))))))))))
theorem ops_lt : ∀ o ∈ opsL, o < 128 ∧ closerN o < 128 := by decide
/-- what `_law_in_qq` writes for one sign -/
def qq1 (o cl way c : Nat) : List Nat :=
  if way = 1 ∨ (way = 4 ∧ c > 511) then [92, 120, 123] ++ basedR 16 20 c [] ++ [125]
  else if way = 2 then [92, 111, 123] ++ basedR 8 20 c [] ++ [125]
  else if way = 4 then [92] ++ ([48, 48] ++ basedR 8 20 c []).drop (([48, 48] ++ basedR 8 20 c []).length - 3)
  else if way = 3 ∧ c < 256 then [92, 120] ++ ([48] ++ basedR 16 20 c []).drop (([48] ++ basedR 16 20 c []).length - 2)
  else match namedN c with
    | some e => e
    | none => if c = o ∨ c = cl then [92, c] else [c]
def inqqR (ns : List Int) (o cl : Nat) : Nat → List Nat → List Nat
  | _, [] => []
  | k, c :: r => qq1 o cl (drawN ns k 5) c ++ inqqR ns o cl (k + 1) r
theorem inqqR_snoc (ns : List Int) (o cl : Nat) : ∀ (l : List Nat) (k x : Nat), inqqR ns o cl k (l ++ [x]) = inqqR ns o cl k l ++ qq1 o cl (drawN ns (k + l.length) 5) x := by
  intro l
  induction l with
  | nil => intro k x; simp [inqqR]
  | cons c r ih => intro k x; simp only [List.cons_append, inqqR, ih, List.append_assoc, List.length_cons]; rw [show k + 1 + r.length = k + (r.length + 1) by omega]
theorem inqqR_step {ns : List Int} {o cl k x i : Nat} {l : List Nat} (h : l[i]? = some x) : inqqR ns o cl k (l.take (i + 1)) = inqqR ns o cl k (l.take i) ++ qq1 o cl (drawN ns (k + i) 5) x := by
  have hi := (List.getElem?_eq_some_iff.mp h).1
  rw [List.take_add_one, h]
  show inqqR ns o cl k (l.take i ++ [x]) = _
  rw [inqqR_snoc, List.length_take, Nat.min_eq_left (by omega)]
theorem qq_one {o cl c : Nat} : [92, 120, 123] ++ basedR 16 20 c [] ++ [125] = qq1 o cl 1 c := by unfold qq1; rw [if_pos (.inl rfl)]
theorem qq_hi {o cl c : Nat} (h : c > 511) : [92, 120, 123] ++ basedR 16 20 c [] ++ [125] = qq1 o cl 4 c := by unfold qq1; rw [if_pos (.inr ⟨rfl, h⟩)]
theorem qq_two {o cl c : Nat} : [92, 111, 123] ++ basedR 8 20 c [] ++ [125] = qq1 o cl 2 c := by unfold qq1; rw [if_neg (by omega), if_pos rfl]
theorem qq_four {o cl c : Nat} (h : ¬ c > 511) : [92] ++ ([48, 48] ++ basedR 8 20 c []).drop (([48, 48] ++ basedR 8 20 c []).length - 3) = qq1 o cl 4 c := by unfold qq1; rw [if_neg (by omega), if_neg (by omega), if_pos rfl]
theorem qq_three {o cl c : Nat} (h : c < 256) : [92, 120] ++ ([48] ++ basedR 16 20 c []).drop (([48] ++ basedR 16 20 c []).length - 2) = qq1 o cl 3 c := by unfold qq1; rw [if_neg (by omega), if_neg (by omega), if_neg (by omega), if_pos ⟨rfl, h⟩]
theorem qq_rest {o cl w c : Nat} (h : w = 0 ∨ (w = 3 ∧ ¬ c < 256)) : qq1 o cl w c = match namedN c with | some e => e | none => if c = o ∨ c = cl then [92, c] else [c] := by unfold qq1; rw [if_neg (by omega), if_neg (by omega), if_neg (by omega), if_neg (by omega)]
theorem qq_named {o cl w c : Nat} {e : List Nat} (h : w = 0 ∨ (w = 3 ∧ ¬ c < 256)) (hn : namedN c = some e) : e = qq1 o cl w c := by rw [qq_rest h, hn]
theorem qq_del {o cl w c : Nat} (h : w = 0 ∨ (w = 3 ∧ ¬ c < 256)) (hn : namedN c = none) (hc : c = o ∨ c = cl) : [92] ++ [c] = qq1 o cl w c := by rw [qq_rest h, hn]; simp only; rw [if_pos hc]; rfl
theorem qq_pl {o cl w c : Nat} (h : w = 0 ∨ (w = 3 ∧ ¬ c < 256)) (hn : namedN c = none) (h1 : c ≠ o) (h2 : c ≠ cl) : [c] = qq1 o cl w c := by rw [qq_rest h, hn]; simp only; rw [if_neg (by rintro (q | q); exact h1 q; exact h2 q)]
theorem qq1_len (o cl way c : Nat) : (qq1 o cl way c).length ≤ 30 := by
  have h16 := basedR_len 16 20 c []
  have h8 := basedR_len 8 20 c []
  simp only [List.length_nil, Nat.zero_add] at h16 h8
  unfold qq1
  split
  · simp only [List.length_append, List.length_cons, List.length_nil]; omega
  split
  · simp only [List.length_append, List.length_cons, List.length_nil]; omega
  split
  · simp only [List.length_append, List.length_cons, List.length_nil, List.length_drop]; omega
  split
  · simp only [List.length_append, List.length_cons, List.length_nil, List.length_drop]; omega
  rcases named_cases c with ⟨e, _⟩ | ⟨y, e, _, hy, _⟩
  · rw [e]; dsimp only; split <;> simp
  · rw [e]; dsimp only; omega
theorem inqqR_len (ns : List Int) (o cl : Nat) : ∀ (l : List Nat) (k : Nat), (inqqR ns o cl k l).length ≤ 30 * l.length := by
  intro l
  induction l with
  | nil => intro k; simp [inqqR]
  | cons c r ih =>
    intro k
    have := ih (k + 1)
    have := qq1_len o cl (drawN ns k 5) c
    simp only [inqqR, List.length_append, List.length_cons]
    omega
theorem sub3 {a b : Addr × Obj} {r own : List (Addr × Obj)} : ∀ p ∈ a :: b :: r, p ∈ a :: b :: (r ++ own) := by
  intro p hp
  simp only [List.mem_cons, List.mem_append] at hp ⊢
  rcases hp with h | h | h <;> simp [h]
theorem sub3d {a b d : Addr × Obj} {r own : List (Addr × Obj)} : ∀ p ∈ a :: b :: r, p ∈ d :: a :: b :: (r ++ own) := fun p hp => .tail _ (sub3 p hp)
def RTapeS (tp sl : Addr) (vs : List Value) (n2 : Nat) (k : Nat) (news : List (Addr × Obj)) (y : List Nat) : RetT := fun h₀ L m s Q _ => ∀ (u t : Tok) (n1 : Nat) (h' : Heap) (tk' : Nat), Fr h₀ L h' m → News h₀ L h' ((tp, listOf #[.ref sl, .int (k : Nat) t] n1) :: (sl, listOf vs.toArray n2) :: news) → Q (.str (S y) u) { s with heap := h', toks := tk' }
set_option maxHeartbeats 4000000 in
theorem ct_inqq (w mean mg mb news) (tp sl : Addr) (vs : List Value) (ns : List Int) (k : Nat) (n1 n2 : Nat) (tt : Tok) (l : List Nat) (t : Tok) (o : Nat) (u : Tok) (hI : IntsAre vs ns) (hlen : ns.length ≤ 1000) (hk1 : k ≤ 100) (hlt : @LT.lt Nat _ sl tp) (hne : ∀ q ∈ news, q.1 ≠ tp)
    (hl : l.length ≤ 30) (hx : ∀ x ∈ l, x ≤ 100000) (ho : o ∈ opsL) :
    Ct w mean mg mb 329 6 80 ((tp, listOf #[.ref sl, .int k tt] n1) :: (sl, listOf vs.toArray n2) :: news) [.ref tp, .str (S l) t, .str (S [o]) u] (RTapeS tp sl vs n2 (k + l.length) news (inqqR ns o (closerN o) k l)) := by
  intro dp un gd cn cs' a ccd cl outer A₀ base h₀ L m s Q E B F X N T hk hd hu hret
  have hlk := ends_all o ho
  walk_at "nz in"
  k_steps
  refine Hold.mk ?_
  rename Fr _ _ _ _ => lF
  rename News _ _ _ (_ :: _) => lN
  refine nz_forS (σ := List Nat × Tok × Nat × Tok × Nat) (fun c => (tp, listOf #[.ref sl, .int (c.2.2.1 : Nat) c.2.2.2.1] c.2.2.2.2) :: (sl, listOf vs.toArray n2) :: news) (fun c => [(Str.ofString "raw", .str (S c.1) c.2.1)]) [Str.ofString "way", Str.ofString "code"]
    (fun i c => c.1 = inqqR ns o (closerN o) k (l.take i) ∧ c.2.2.1 = k + i) ([], _, k, _, _) (by rfl) lF lN (by kst_all) ⟨by simp [inqqR], by simp⟩ ?_ ?_
  · rintro ⟨raw, t1, j, t3, n3⟩ pre x t2 kU h tk own hx1 hoff ⟨hP1, hP3⟩ kFr kNews
    dsimp only at hP1 hP3
    have hpl := (List.getElem?_eq_some_iff.mp hx1).1
    have hxb := hx x (List.mem_of_getElem? hx1)
    have hb16 := basedR_len 16 20 x []
    have hb8 := basedR_len 8 20 x []
    simp only [List.length_nil, Nat.zero_add] at hb16 hb8
    have hP2 := inqqR_len ns o (closerN o) (l.take pre.length) k
    rw [← hP1, List.length_take] at hP2
    have hstep := inqqR_step (ns := ns) (o := o) (cl := closerN o) (k := k) hx1
    rw [← hP1, ← hP3] at hstep
    have hplen : (pre ++ [(x : Int)]).length = pre.length + 1 := by simp
    have hway := drawN_lt (ns := ns) (k := j) (n := 5) (by omega)
    have hne2 : ∀ q ∈ news ++ own, q.1 ≠ tp := by
      intro q hq
      rcases List.mem_append.mp hq with hq | hq
      · exact hne q hq
      · exact hoff q hq _ (.head _)
    clear lF lN
    dsimp only [kstB] at kFr
    simp only [List.cons_append] at kNews
    obtain ⟨ho1, ho2⟩ := ops_lt o ho
    rcases (by omega : drawN ns j 5 = 0 ∨ drawN ns j 5 = 1 ∨ drawN ns j 5 = 2 ∨ (drawN ns j 5 = 3 ∧ x < 256) ∨ (drawN ns j 5 = 3 ∧ ¬ x < 256) ∨ drawN ns j 5 = 4) with hw | hw | hw | ⟨hw, hx256⟩ | ⟨hw, hx256⟩ | hw
    · rcases named_cases x with ⟨hn1, hn2⟩ | ⟨e, hn1, hn2, he2, _⟩
      · k_steps
        all_goals
          rename Fr _ _ _ _ => eF
          rename News _ _ _ _ => eN
          refine Hold.mk ?_
          refine kst_end (_, _, j + 1, _, _) eF eN (by first | exact sub3 | exact sub3d) ?_ rfl trivial (by kst_all) (by kst_same) ⟨?_, ?_⟩
          · intro p hp; simp [hp]
          · show _ = inqqR ns o (closerN o) k (l.take (pre ++ [(x : Int)]).length)
            rw [hplen, hstep, hw]
            refine congrArg (raw ++ ·) ?_
            first | exact qq_one | exact qq_hi (by omega) | exact qq_two | exact qq_four (by omega) | exact qq_three (by omega) | exact qq_named (by omega) (by with_reducible assumption) | exact qq_del (by omega) (by with_reducible assumption) (.inl (by assumption)) | exact qq_del (by omega) (by with_reducible assumption) (.inr (by assumption)) | exact qq_pl (by omega) (by with_reducible assumption) (by omega) (by omega)
          · show j + 1 = k + (pre ++ [(x : Int)]).length
            rw [hplen]; omega
      · k_steps
        all_goals
          rename Fr _ _ _ _ => eF
          rename News _ _ _ _ => eN
          refine Hold.mk ?_
          refine kst_end (_, _, j + 1, _, _) eF eN (by first | exact sub3 | exact sub3d) ?_ rfl trivial (by kst_all) (by kst_same) ⟨?_, ?_⟩
          · intro p hp; simp [hp]
          · show _ = inqqR ns o (closerN o) k (l.take (pre ++ [(x : Int)]).length)
            rw [hplen, hstep, hw]
            refine congrArg (raw ++ ·) ?_
            first | exact qq_one | exact qq_hi (by omega) | exact qq_two | exact qq_four (by omega) | exact qq_three (by omega) | exact qq_named (by omega) (by with_reducible assumption) | exact qq_del (by omega) (by with_reducible assumption) (.inl (by assumption)) | exact qq_del (by omega) (by with_reducible assumption) (.inr (by assumption)) | exact qq_pl (by omega) (by with_reducible assumption) (by omega) (by omega)
          · show j + 1 = k + (pre ++ [(x : Int)]).length
            rw [hplen]; omega
    · k_steps
      all_goals
        rename Fr _ _ _ _ => eF
        rename News _ _ _ _ => eN
        refine Hold.mk ?_
        refine kst_end (_, _, j + 1, _, _) eF eN (by first | exact sub3 | exact sub3d) ?_ rfl trivial (by kst_all) (by kst_same) ⟨?_, ?_⟩
        · intro p hp; simp [hp]
        · show _ = inqqR ns o (closerN o) k (l.take (pre ++ [(x : Int)]).length)
          rw [hplen, hstep, hw]
          refine congrArg (raw ++ ·) ?_
          first | exact qq_one | exact qq_hi (by omega) | exact qq_two | exact qq_four (by omega) | exact qq_three (by omega) | exact qq_named (by omega) (by with_reducible assumption) | exact qq_del (by omega) (by with_reducible assumption) (.inl (by assumption)) | exact qq_del (by omega) (by with_reducible assumption) (.inr (by assumption)) | exact qq_pl (by omega) (by with_reducible assumption) (by omega) (by omega)
        · show j + 1 = k + (pre ++ [(x : Int)]).length
          rw [hplen]; omega
    · k_steps
      all_goals
        rename Fr _ _ _ _ => eF
        rename News _ _ _ _ => eN
        refine Hold.mk ?_
        refine kst_end (_, _, j + 1, _, _) eF eN (by first | exact sub3 | exact sub3d) ?_ rfl trivial (by kst_all) (by kst_same) ⟨?_, ?_⟩
        · intro p hp; simp [hp]
        · show _ = inqqR ns o (closerN o) k (l.take (pre ++ [(x : Int)]).length)
          rw [hplen, hstep, hw]
          refine congrArg (raw ++ ·) ?_
          first | exact qq_one | exact qq_hi (by omega) | exact qq_two | exact qq_four (by omega) | exact qq_three (by omega) | exact qq_named (by omega) (by with_reducible assumption) | exact qq_del (by omega) (by with_reducible assumption) (.inl (by assumption)) | exact qq_del (by omega) (by with_reducible assumption) (.inr (by assumption)) | exact qq_pl (by omega) (by with_reducible assumption) (by omega) (by omega)
        · show j + 1 = k + (pre ++ [(x : Int)]).length
          rw [hplen]; omega
    · k_steps
      all_goals
        rename Fr _ _ _ _ => eF
        rename News _ _ _ _ => eN
        refine Hold.mk ?_
        refine kst_end (_, _, j + 1, _, _) eF eN (by first | exact sub3 | exact sub3d) ?_ rfl trivial (by kst_all) (by kst_same) ⟨?_, ?_⟩
        · intro p hp; simp [hp]
        · show _ = inqqR ns o (closerN o) k (l.take (pre ++ [(x : Int)]).length)
          rw [hplen, hstep, hw]
          refine congrArg (raw ++ ·) ?_
          first | exact qq_one | exact qq_hi (by omega) | exact qq_two | exact qq_four (by omega) | exact qq_three (by omega) | exact qq_named (by omega) (by with_reducible assumption) | exact qq_del (by omega) (by with_reducible assumption) (.inl (by assumption)) | exact qq_del (by omega) (by with_reducible assumption) (.inr (by assumption)) | exact qq_pl (by omega) (by with_reducible assumption) (by omega) (by omega)
        · show j + 1 = k + (pre ++ [(x : Int)]).length
          rw [hplen]; omega
    · rcases named_cases x with ⟨hn1, hn2⟩ | ⟨e, hn1, hn2, he2, hxs⟩
      · k_steps
        all_goals
          rename Fr _ _ _ _ => eF
          rename News _ _ _ _ => eN
          refine Hold.mk ?_
          refine kst_end (_, _, j + 1, _, _) eF eN (by first | exact sub3 | exact sub3d) ?_ rfl trivial (by kst_all) (by kst_same) ⟨?_, ?_⟩
          · intro p hp; simp [hp]
          · show _ = inqqR ns o (closerN o) k (l.take (pre ++ [(x : Int)]).length)
            rw [hplen, hstep, hw]
            refine congrArg (raw ++ ·) ?_
            first | exact qq_one | exact qq_hi (by omega) | exact qq_two | exact qq_four (by omega) | exact qq_three (by omega) | exact qq_named (by omega) (by with_reducible assumption) | exact qq_del (by omega) (by with_reducible assumption) (.inl (by assumption)) | exact qq_del (by omega) (by with_reducible assumption) (.inr (by assumption)) | exact qq_pl (by omega) (by with_reducible assumption) (by omega) (by omega)
          · show j + 1 = k + (pre ++ [(x : Int)]).length
            rw [hplen]; omega
      · omega
    · k_steps
      all_goals
        rename Fr _ _ _ _ => eF
        rename News _ _ _ _ => eN
        refine Hold.mk ?_
        refine kst_end (_, _, j + 1, _, _) eF eN (by first | exact sub3 | exact sub3d) ?_ rfl trivial (by kst_all) (by kst_same) ⟨?_, ?_⟩
        · intro p hp; simp [hp]
        · show _ = inqqR ns o (closerN o) k (l.take (pre ++ [(x : Int)]).length)
          rw [hplen, hstep, hw]
          refine congrArg (raw ++ ·) ?_
          first | exact qq_one | exact qq_hi (by omega) | exact qq_two | exact qq_four (by omega) | exact qq_three (by omega) | exact qq_named (by omega) (by with_reducible assumption) | exact qq_del (by omega) (by with_reducible assumption) (.inl (by assumption)) | exact qq_del (by omega) (by with_reducible assumption) (.inr (by assumption)) | exact qq_pl (by omega) (by with_reducible assumption) (by omega) (by omega)
        · show j + 1 = k + (pre ++ [(x : Int)]).length
          rw [hplen]; omega
  · rintro ⟨raw, t1, j, t3, n3⟩ kU h tk ⟨hP1, hP3⟩ kFr kNews
    dsimp only at hP1 hP3
    rw [List.take_length] at hP1
    subst hP1 hP3
    clear lF lN
    dsimp only [kstB] at kFr
    k_steps
    exact hret _ _ _ _ _ (by assumption) (by assumption)
end Nz

namespace Nz
-- an own exception with __init__ is made
section
variable {prog : Program} {w : World} {A : Around} {E : Value → Shared → Prop} {h : Heap} {g : Array GenState} {d : Drawn} {t : Nat} {os : OsState}
variable {nm q : PySem.Str} {C N : Addr} {bs bm : List Value} {hdct : Bool} {sn : List PySem.Str} {sub : List Value} {ab : Bool} {col : Option Bool} {dd : Option Addr} {k0 k1 k2 k3 k5 : Option Value}
abbrev excNew (C t : Addr) (D : Option Addr) : Obj := { cls := .ref C, dict := D, data := .fields #[.ref t, .none, .none, .none, .bool false, .none] }
abbrev tupD (vs : List Value) : Obj := { cls := .type "tuple", data := .seq vs.toArray }
theorem exc_check_new {rest : List Value} {Q : Unit → Shared → Prop} (hB : bm.contains (.type "Exception") = true)
    (hC : h.get? C = some (excClassObj nm q C N bs bm hdct sn sub ab col dd k0 k1 k2 k3 k5 "Exception.__new__"))
    (hq : Q () ⟨h, g, d, t, os⟩) {M : Model} : wpAny M A (checkBuiltinCall "Exception.__new__" ⟨.ref C :: rest, []⟩) Q E ⟨h, g, d, t, os⟩ := by
  have F := PySem.F.excBase_Exception
  have hcont : (Value.ref C :: bm).contains (.type "Exception") = true := by rw [List.contains_cons, hB, Bool.or_true]
  have hstar := F.noStar
  simp only [checkBuiltinCall, F.newKind, F.newSplit, F.newRow]
  repeat (first | refine wpAny_loadPart_at hC ?_ | (refine wpAny_isSubtype_exc hC ?_; rw [hcont]) | refine wpAny_staticBase_exc hC ?_ | refine wpAny_madeBy_exc hC ?_ | simp only [bne_self_eq_false, Bool.false_eq_true, if_false] | wp_step)
  exact hq
theorem exc_new {R : Result → Shared → Prop} {rest : List Value} (hB : bm.contains (.type "Exception") = true) (hA : bm.contains (.type "AttributeError") = false) (hN : bm.contains (.type "NameError") = false)
    (hC : h.get? C = some (excClassObj nm q C N bs bm hdct sn sub ab col dd k0 k1 k2 k3 k5 "Exception.__new__"))
    (hq : R (.ok (.ret (.ref (h.objs.size + 1)))) ⟨(h.push (tupD rest)).push (excNew C h.objs.size none), g, d, t, os⟩) (hrest : rest.length ≤ sizeLine) :
    codeAny (model prog w) A (.builtin "Exception.__new__" ⟨.ref C :: rest, []⟩) R ⟨h, g, d, t, os⟩ := by
  have F := PySem.F.excBase_Exception
  have hends := F.ends
  have hcB : (Value.ref C :: bm).contains (.type "Exception") = true := by rw [List.contains_cons, hB, Bool.or_true]
  have hcA : (Value.ref C :: bm).contains (.type "AttributeError") = false := by rw [List.contains_cons, hA]; rfl
  have hcN : (Value.ref C :: bm).contains (.type "NameError") = false := by rw [List.contains_cons, hN]; rfl
  refine codeAny_builtinAt F.entry ?_
  unfold Builtin.«BaseException.__new__»
  refine PySem.wpAt_bind ?_
  show PySem.wpAt _ _ _ (stack >>= _) _ _ _
  refine PySem.wpAt_bind (PySem.wpAt_stack fun p below => PySem.wpAt_of_wpAny ?_)
  wp_walk
  refine PySem.wpAt_of_wpAny ?_
  rw [F.owner]
  repeat (first | with_reducible refine wpAny_madeHere_exc F.canon hC ?_ | with_reducible refine wpAny_loadPart_at hC ?_ | (with_reducible refine wpAny_isSubtype_exc hC ?_; first | rw [hcB] | rw [hcA] | rw [hcN]) | wp_step)
  show R _ _
  rw [Heap.size_push]
  exact hq
theorem exc_type_call {rest : List Value} {fI : Addr} {Q : Fin → Shared → Prop} (hB : bm.contains (.type "Exception") = true) (hA : bm.contains (.type "AttributeError") = false) (hNE : bm.contains (.type "NameError") = false)
    (hC : h.get? C = some (excClassObj nm q C N bs bm hdct sn sub ab col dd k0 k1 k2 k3 k5 "Exception.__new__"))
    (hi : Looks (model prog w) h (typeLookup (.ref C) "__init__") (some (.ref fI))) (hb : ∀ self, Looks (model prog w) h (bindSpecial (.ref fI) self) (.ref fI, [self]))
    (hq : wpAny (model prog w) A (call (.ref fI) (.ref (h.objs.size + 1) :: rest)) (fun r s' => r = .none ∧ Q (.done (.ret (.ref (h.objs.size + 1)))) s') E ⟨(h.push (tupD rest)).push (excNew C h.objs.size none), g, d, t, os⟩) (hrest : rest.length ≤ sizeLine) :
    wpAny (model prog w) A (Builtin.«type.__call__» ⟨.ref C :: rest, []⟩) Q E ⟨h, g, d, t, os⟩ := by
  repeat (first | with_reducible refine wpAny_loadPart_at hC ?_ | with_reducible refine wpAny_madeBy_exc hC ?_ | wp_step)
  refine codeAny_call_builtin_code (Code.quiet_builtin _ PySem.F.excBase_Exception.quiet) (exc_check_new hB hC ?_)
  refine exc_new hB hA hNE hC ?_ hrest
  show wpAny _ _ _ _ _ _
  have k : ∀ b o, h.get? b = some o → ((h.push (tupD rest)).push (excNew C h.objs.size none)).get? b = some o := fun b o e => Heap.get?_push_of_some _ (Heap.get?_push_of_some _ e)
  have hC₁ := k _ _ hC
  have hget : ((h.push (tupD rest)).push (excNew C h.objs.size none)).get? (h.objs.size + 1) = some (excNew C h.objs.size none) := by heap_get
  have hcC : (Value.ref C :: bm).contains (.ref C) = true := by simp
  have i1 := hi.keeps k
  have b1 := (hb (.ref (h.objs.size + 1))).keeps k
  unfold isInstance
  repeat (first | with_reducible refine wpAny_loadPart_at hget ?_ | (with_reducible refine wpAny_isSubtype_exc hC₁ ?_; rw [hcC]) | wp_step)
  show wpAny _ _ (typeLookup (.ref C) _) _ _ _
  refine i1.at ?_
  refine wpAny_holding (wpAny_bind ?_)
  refine b1.at ?_
  refine wpAny_bind (wpAny_mono hq (fun r s' hr => ?_) fun _ _ x => x)
  obtain ⟨rfl, hQ⟩ := hr
  wp_walk
  exact hQ
theorem exc_call {rest : List Value} {fI : Addr} {Q : Value → Shared → Prop} (hB : bm.contains (.type "Exception") = true) (hA : bm.contains (.type "AttributeError") = false) (hNE : bm.contains (.type "NameError") = false)
    (hC : h.get? C = some (excClassObj nm q C N bs bm hdct sn sub ab col dd k0 k1 k2 k3 k5 "Exception.__new__"))
    (hi : Looks (model prog w) h (typeLookup (.ref C) "__init__") (some (.ref fI))) (hb : ∀ self, Looks (model prog w) h (bindSpecial (.ref fI) self) (.ref fI, [self]))
    (hq : wpAny (model prog w) (A.under (.builtin "type.__call__" ⟨.ref C :: rest, []⟩)) (call (.ref fI) (.ref (h.objs.size + 1) :: rest)) (fun r s' => r = .none ∧ Q (.ref (h.objs.size + 1)) s') E ⟨(h.push (tupD rest)).push (excNew C h.objs.size none), g, d, t, os⟩) (hrest : rest.length ≤ sizeLine) :
    wpAny (model prog w) A (call (.ref C) rest) Q E ⟨h, g, d, t, os⟩ := by
  have f1 := tc_lookup
  have f2 := tc_bind (.ref C)
  have hT : (⟨h, g, d, t, os⟩ : Shared).TypeIs (.ref C) "type" := ⟨_, hC, rfl⟩
  refine wpAny_call (codeAny_of_tree ?_)
  show wpAny _ _ (callAny (.ref C) _) _ _ _
  repeat (any_goals (first | assumption | with_reducible refine wpAny_loadPart_at hC ?_ | wp_step))
  refine ⟨rfl, ?_⟩
  exact codeAny_call_builtin_at (Code.quiet_builtin _ (by decide +kernel)) entry_typeCall (wpAny_check_type_call_sub hC (exc_type_call hB hA hNE hC hi hb hq hrest))
/-- `raise` of a made exception -/
theorem exc_raiseStmt {env : Env} {s : Shared} {x : Sem Value} {Q : Flow → Shared → Prop} (hbase : bm.contains (.type "BaseException") = true) (hh : A.handled = none)
    (h : wpAny (model prog w) A x (fun v s₁ => ∃ e t D, v = .ref e ∧ s₁.heap.get? C = some (excClassObj nm q C N bs bm hdct sn sub ab col dd k0 k1 k2 k3 k5 "Exception.__new__") ∧
      s₁.heap.get? e = some (excNew C t D) ∧ E (.ref e) s₁) E s) :
    wpAny (model prog w) A (raiseStmt env (some x) none) Q E s := by
  have hcB : (Value.ref C :: bm).contains (.type "BaseException") = true := by rw [List.contains_cons, hbase, Bool.or_true]
  unfold raiseStmt
  refine wpAny_bind (wpAny_mono h (fun v s₁ h₁ => ?_) fun _ _ x => x)
  obtain ⟨e, t, D, rfl, hC, he, hE⟩ := h₁
  obtain ⟨hp, g, d, tk, os⟩ := s₁
  repeat (first | with_reducible refine wpAny_loadPart_at he ?_ | with_reducible refine wpAny_loadPart_at hC ?_ | (with_reducible refine wpAny_isSubtype_exc hC ?_; rw [hcB]) | wp_step)
  exact wpAny_raiseNew_none hh hE
end
theorem cls51 (P : PySem.Params) : ∃ (nm q : PySem.Str) (bs : List Value) (hdct : Bool) (sn : List PySem.Str) (sub : List Value) (ab : Bool) (col : Option Bool) (dd : Option Addr) (k0 k1 k2 k3 k5 : Option Value),
    (hd.heap_39 P).lookup 51 = some (excClassObj nm q 51 50 bs [.ref 31, .type "Exception", .type "BaseException", .type "object"] hdct sn sub ab col dd k0 k1 k2 k3 k5 "Exception.__new__") :=
  ⟨_, _, _, _, _, _, _, _, _, _, _, _, _, _, rfl⟩
end Nz

namespace Nz
theorem meta_Exception : typeOf (.type "Exception") = pure (.type "type") := by kernel_rfl
section
open PySem.Builtin PySem.Builtin.ObjectAttr PySem.Builtin.Getset_descriptor
variable {prog : Program} {w : World} {A : Around} {E : Value → Shared → Prop} {s : Shared} {K : Frag} {x C : Addr} {ox od : Obj} {h₀ : Heap} {L : Addr} {m : PySem.Str → Option Value} {news : List (Addr × Obj)} {R : Result → Shared → Prop} {name : PySem.Str} {v : Value}
theorem exc_check_init {nm q : PySem.Str} {C N : Addr} {bs bm : List Value} {hdct : Bool} {sn : List PySem.Str} {sub : List Value} {ab : Bool} {col : Option Bool} {dd : Option Addr} {k0 k1 k2 k3 k5 : Option Value} {newId : String} {h : Heap} {g : Array GenState} {d : Drawn} {t : Nat} {os : OsState}
    {M : Model} {e : Addr} {oe : Obj} {rest : List Value} {Q : Unit → Shared → Prop} (hB : bm.contains (.type "Exception") = true)
    (hC : h.get? C = some (excClassObj nm q C N bs bm hdct sn sub ab col dd k0 k1 k2 k3 k5 newId)) (he : h.get? e = some oe) (hcls : oe.cls = .ref C) (hq : Q () ⟨h, g, d, t, os⟩) :
    wpAny M A (checkBuiltinCall "Exception.__init__" ⟨.ref e :: rest, []⟩) Q E ⟨h, g, d, t, os⟩ := by
  have F := PySem.F.excBase_Exception
  have hcB : (Value.ref C :: bm).contains (.type "Exception") = true := by rw [List.contains_cons, hB, Bool.or_true]
  have hshort := F.noStar
  simp only [checkBuiltinCall, F.initKind, F.initSplit, F.initRow]
  repeat (first | (with_reducible refine wpAny_loadPart_at he ?_; rw [hcls]) | with_reducible refine wpAny_loadPart_at hC ?_ | (with_reducible refine wpAny_isSubtype_exc hC ?_; rw [hcB]) | wp_step)
  refine wpAny_onRaise ?_
  rw [show ∀ (a b : String) (n : Nat), Bind.check ⟨.positional, "*", "Exception", .self, [⟨"args", .varPos, false⟩]⟩ a b n (List.map (fun x => x.fst) ({ pos := Value.ref e :: rest } : Args).kw) = pure () from
    fun a b n => check_star_args _ _ _ _ _ _]
  exact wpAny_pure hq
theorem exc_init {e t : Addr} {D : Option Addr} {Q : Value → Shared → Prop} (hF : Fr h₀ L s.heap m) (hN : News h₀ L s.heap ((e, excNew 51 t D) :: news)) (X : (hd.heap_39 w.params).In s.heap) (he : ∀ q ∈ news, q.1 ≠ e)
    (h : ∀ h' t2, Fr h₀ L h' m → News h₀ L h' ((e, excNew 51 t2 D) :: news) → Q .none { s with heap := h' }) :
    wpAny (model prog w) A (call (.builtin "Exception.__init__") [.ref e, v]) Q E s := by
  have F := PySem.F.excBase_Exception
  have hge := (hN _ (.head _)).1
  obtain ⟨U1, U2⟩ := news_upd (pre := []) (post := news) (f := Obj.mapFields (·.setIfInBounds 0 (.ref s.heap.objs.size))) (hF.push (tupD [v])) (fun p hp => (News.push hF hN (tupD [v]) rfl) p (List.mem_cons_of_mem _ hp)) (fun _ h => (nomatch h)) he rfl rfl
  obtain ⟨nm, q, bs, hdct, sn, sub, ab, col, dd, k0, k1, k2, k3, k5, hK⟩ := cls51 w.params
  have hC := X _ _ hK
  obtain ⟨hp, g, d, tk, os⟩ := s
  refine wpAny_call (codeAny_call_builtin F.init.plain F.initEntry (exc_check_init (by decide +kernel) hC hge rfl ?_))
  unfold Builtin.«BaseException.__init__»
  dsimp only
  rw [if_neg (by simp)]
  unfold newTuple Builtin.BaseException.bexcPut
  have he₁ := Heap.get?_push_of_some (h := hp) (tupD [v]) hge
  refine wpAny_bind (wpAny_newObj_type (wpAny_bind (wpAny_bind (wpAny_field he₁ rfl rfl (wpAny_bind (wpAny_setField he₁ rfl (by show 0 < 6; decide) ?_))))) (by size_fits))
  exact wpAny_letGo (wpAny_pure (h _ _ U1 U2))
def excMro (K : Frag) (C : Addr) : Prop := ∃ cd P, clsIn K C = some cd ∧ cd.mro = [.ref C, .ref P, .type "Exception", .type "BaseException", .type "object"] ∧ cd.hasDict = true
theorem osaE_open {tk : Tok} {o : Option Obj} (X : K.In s.heap) (I : InstAt s.heap x ox C o) (hp : excMro K C) (ht : takerIn K C name = some none)
    (h : ∀ b, wpAny (model prog w) A.in1 (storeInOwnDict (.ref x) (.ref C) (.str name tk) name v b)
      (fun fin s' => match fin with | PySem.Fin.done f => R (.ok f) s' | PySem.Fin.again c' => c'.quiet = true ∧ codeAny (model prog w) A c' R s') (fun e s' => R (.error e) s') s) :
    codeAny (model prog w) A (.call (.builtin "object.__setattr__") ⟨[.ref x, .str name tk, v], []⟩) R s := by
  have SF := PySem.F.store_Exception
  obtain ⟨cd, Pa, hc, hmro, hdic⟩ := hp
  have sub : Looks (model prog w) s.heap (isInstance (.ref x) (.type "object")) true := I.type.andThen (looks_mroIn X (by unfold mroIn; rw [hc, Option.bind_some, hmro]; simp))
  refine codeAny_call_builtin SF.slot.plain SF.entry (@check_slot (model prog w) _ _ s "object.__setattr__" "object" "__setattr__" (.ref x) [.str name tk, v] [] _ SF.kind SF.split sub (SF.args (.ref x) (.str name tk) v) ?_)
  obtain ⟨attr, ha, hr⟩ := Option.bind_eq_some_iff.mp ht
  have hm : Looks (model prog w) s.heap (mroOf (.ref C)) cd.mro := (looks_clsIn X hc).andThen .now
  have L3 : Looks (model prog w) s.heap (storeTaker? attr) none := by
    cases attr with
    | none => exact .now
    | some a =>
      obtain ⟨b, hb, hq⟩ := Option.map_eq_some_iff.mp hr
      cases b
      · exact (looks_takesIn X hb).andThen .now
      · cases hq
  rw [osa_eq, refuse_eq]
  refine wpAny_bind (wpAny_bind (I.type.here (wpAny_bind (hm.here ?_))))
  rw [hmro, refuseLoop_ref, refuseLoop_ref, SF.passes]
  refine wpAny_pure (wpAny_bind (I.type.here (wpAny_bind ((looks_findIn X ha).here (wpAny_bind (L3.here ?_))))))
  exact h _
theorem store_tail {dx : Addr} {od' : Obj} {tk : Tok} {pre post : List (Addr × Obj)} {es : List DictEntry} {n : Nat} (F : Fr h₀ L s.heap m) (N : News h₀ L s.heap (pre ++ (dx, od) :: post))
    (hl : (lookIn name od).isSome = true) (h1 : ∀ p ∈ pre, p.1 ≠ dx) (h2 : ∀ p ∈ post, p.1 ≠ dx)
    (e : Obj.putName name (PyData.keyHash w.params name) (.str name s.toks) v od = od') (e' : od'.data = .dict es.toArray n) (hz : es.length ≤ 1000)
    (h : ∀ h', Fr h₀ L h' m → News h₀ L h' (pre ++ (dx, od') :: post) → R (.ok (.ret .none)) { s with heap := h', toks := s.toks + 1 }) :
    wpAny (model prog w) A.in1 (storeInDict dx (.str name tk) name v)
      (fun fin s' => match fin with | PySem.Fin.done f => R (.ok f) s' | PySem.Fin.again c' => c'.quiet = true ∧ codeAny (model prog w) A c' R s') (fun e s' => R (.error e) s') s := by
  obtain ⟨U1, U2⟩ := news_upd (f := Obj.putName name (PyData.keyHash w.params name) (.str name s.toks) v) F N h1 h2 e (by obtain ⟨_, _, dd, _⟩ := od'; cases e'; rfl)
  have D := (N (dx, od) (by simp)).1
  have D' := (U2 (dx, od') (by simp)).1
  unfold storeInDict newKeyGuard
  refine wpAny_bind (wpAny_pure (wpAny_bind ?_))
  unfold nsSet
  refine wpAny_bind (wpAny_bind (wpAny_askSetting (wpAny_pure (wpAny_bind (wpAny_mkText (wpAny_bind (wpAny_loadPart D ?_)))))))
  unfold lookIn at hl
  split at hl
  · rename_i es₀ n₀ q
    rw [q]
    dsimp only
    have c : (!es₀.any (·.key.isStr name) && es₀.any (·.refKey)) = false := by
      rw [← Array.any_toList, ← Array.any_toList]
      split at hl
      · rename_i en he
        rw [List.any_eq_true.mpr ⟨en, List.mem_of_find?_eq_some he, List.find?_some he⟩]; rfl
      · split at hl
        · cases hl
        · rename_i z; rw [Bool.not_eq_true] at z; rw [z, Bool.and_false]
    rw [aRefKeyMayBeTheName_at, c]
    refine wpAny_updatePart D ?_
    refine wpAny_bind (wpAny_lookBehind D' (by rw [e']; exact pastItsLine_dict (by rw [List.size_toArray, sizeLine_eq]; omega)) ?_)
    exact wpAny_pure (h _ U1 U2)
  · cases hl
/-- the first field of a made exception: its dict is made -/
theorem exc_set1 {e t : Addr} {Q : Unit → Shared → Prop} (F : Fr h₀ L s.heap m) (N : News h₀ L s.heap ((e, excNew C t none) :: news)) (X : K.In s.heap) (hp : excMro K C) (ht : takerIn K C name = some none)
    (hs : findIn K (.ref C) "__setattr__" = some (some (.builtin "object.__setattr__"))) (he : ∀ q ∈ news, q.1 ≠ e)
    (h : ∀ h' D tk, Fr h₀ L h' m → News h₀ L h' ((e, excNew C t (some D)) :: (D, dictOf [⟨PyData.keyHash w.params name, .str name tk, v⟩] 1) :: news) → e ≠ D → (∀ q ∈ news, q.1 ≠ D) → Q () { s with heap := h', toks := s.toks + 2 }) :
    wpAny (model prog w) A (setAttr (.ref e) name v) Q E s := by
  have hge := (N _ (.head _)).1
  have I : InstAt s.heap e (excNew C t none) C none := ⟨hge, rfl, rfl, trivial⟩
  have hp' := hp
  obtain ⟨cd, Pa, hc, hmro, hdic⟩ := hp
  obtain ⟨hh, g, d, tk, os⟩ := s
  refine set_plain X I hs (osaE_open (s := ⟨hh, g, d, tk + 1, os⟩) X I hp' ht fun b => ?_)
  have hlt := Heap.lt_size hge
  have N1 := (News.push F N emptyDict)
  have F1 := F.push emptyDict
  have hen : e ≠ hh.objs.size := Nat.ne_of_lt hlt
  have hnn : ∀ q ∈ news, q.1 ≠ hh.objs.size := fun q hq => Nat.ne_of_lt (Heap.lt_size (N q (.tail _ hq)).1)
  obtain ⟨U1, U2⟩ := news_upd (pre := [(hh.objs.size, emptyDict)]) (post := news) (o := excNew C t none) (o' := excNew C t (some hh.objs.size)) (f := fun o => { o with dict := some hh.objs.size }) F1 N1 (fun p hp => by rw [List.mem_singleton.mp hp]; exact Ne.symm hen) he rfl rfl
  refine wpAny_bind (wpAny_pure (wpAny_bind (wpAny_bind (wpAny_loadPart hge (wpAny_bind ((looks_clsIn X hc).at ?_))))))
  rw [hdic]
  refine wpAny_bind (wpAny_alloc (wpAny_bind (wpAny_update (Heap.get?_push_of_some _ hge) ?_)))
  refine wpAny_pure ?_
  show wpAny _ _ (storeInDict hh.objs.size (.str name tk) name v) _ _ _
  refine store_tail (A := A) (R := fun r s' => match r with | .ok (.ret _) => Q () s' | .ok _ => False | .error e => E e s') (s := ⟨(hh.push emptyDict).update e fun o => { o with dict := some hh.objs.size }, g, d, tk + 1, os⟩) (dx := hh.objs.size) (od := emptyDict) (od' := dictOf [⟨PyData.keyHash w.params name, .str name (tk + 1), v⟩] 1) (pre := []) (post := (e, excNew C t (some hh.objs.size)) :: news) (es := [⟨PyData.keyHash w.params name, .str name (tk + 1), v⟩]) (n := 1) U1 U2 rfl (fun _ h => (nomatch h)) ?_ (putName_dict _ _ _ _ [] 0) rfl (by show 1 ≤ 1000; decide) ?_
  · intro q hq
    rcases List.mem_cons.mp hq with rfl | hq
    · exact hen
    · exact hnn q hq
  · intro h' F' N'
    have N2 : News h₀ L h' ((e, excNew C t (some hh.objs.size)) :: (hh.objs.size, dictOf [⟨PyData.keyHash w.params name, .str name (tk + 1), v⟩] 1) :: news) := by
      intro q hq
      refine N' q ?_
      simp only [List.nil_append, List.mem_cons] at hq ⊢
      rcases hq with hq | hq | hq <;> simp [hq]
    exact h h' _ _ F' N2 hen hnn
/-- a field more -/
theorem exc_set2 {e t D : Addr} {es : List DictEntry} {n : Nat} {Q : Unit → Shared → Prop} (F : Fr h₀ L s.heap m) (N : News h₀ L s.heap ((e, excNew C t (some D)) :: (D, dictOf es n) :: news)) (X : K.In s.heap) (hp : excMro K C) (ht : takerIn K C name = some none)
    (hs : findIn K (.ref C) "__setattr__" = some (some (.builtin "object.__setattr__"))) (hD : e ≠ D) (hn : ∀ q ∈ news, q.1 ≠ D) (hl : (getL name es).isSome = true) (hz : (putL name (PyData.keyHash w.params name) (.str name (s.toks + 1)) v es).length ≤ 1000)
    (h : ∀ h', Fr h₀ L h' m → News h₀ L h' ((e, excNew C t (some D)) :: (D, dictOf (putL name (PyData.keyHash w.params name) (.str name (s.toks + 1)) v es) (putN name es n)) :: news) → Q () { s with heap := h', toks := s.toks + 2 }) :
    wpAny (model prog w) A (setAttr (.ref e) name v) Q E s := by
  have hge := (N _ (.head _)).1
  have hgD := (N _ (.tail _ (.head _))).1
  have I : InstAt s.heap e (excNew C t (some D)) C (some (dictOf es n)) := ⟨hge, rfl, rfl, hgD⟩
  have hp' := hp
  obtain ⟨cd, Pa, hc, hmro, hdic⟩ := hp
  obtain ⟨hh, g, d, tk, os⟩ := s
  refine set_plain X I hs (osaE_open (s := ⟨hh, g, d, tk + 1, os⟩) X I hp' ht fun b => ?_)
  refine wpAny_bind (wpAny_pure (wpAny_bind (wpAny_bind (wpAny_loadPart hge (wpAny_bind ((looks_clsIn X hc).at ?_))))))
  rw [hdic]
  refine wpAny_pure (a := some D) ?_
  show wpAny _ _ (storeInDict D (.str name tk) name v) _ _ _
  refine store_tail (A := A) (R := fun r s' => match r with | .ok (.ret _) => Q () s' | .ok _ => False | .error e => E e s') (s := ⟨hh, g, d, tk + 1, os⟩) (dx := D) (od := dictOf es n) (pre := [(e, excNew C t (some D))]) (post := news) F N hl (fun q hq => by rw [List.mem_singleton.mp hq]; exact hD) hn (putName_dict _ _ _ _ es n) rfl hz ?_
  intro h' F' N'
  exact h h' F' N'
end
end Nz

namespace Nz
theorem mro51 (P : PySem.Params) : excMro (hd.heap_39 P) 51 := ⟨_, 31, rfl, rfl, rfl⟩
theorem take51t (P : PySem.Params) : takerIn (hd.heap_39 P) 51 (PySem.Str.ofString "text") = some none := rfl
theorem take51l (P : PySem.Params) : takerIn (hd.heap_39 P) 51 (PySem.Str.ofString "line") = some none := rfl
theorem set51 (P : PySem.Params) : findIn (hd.heap_39 P) (.ref 51) "__setattr__" = some (some (.builtin "object.__setattr__")) := by kernel_rfl
end Nz
theorem Nz.reg_p42_inits_0 : True := by
  k_with "setAttr ref" => (k_here; first
     | (with_reducible refine' Nz.exc_set1 (by k_asm) (by k_asm) (by k_in) (Nz.mro51 _) (by first | exact Nz.take51t _ | exact Nz.take51l _) (Nz.set51 _) (by with_reducible assumption) ?_; intro _ _ _ _ _ _ _)
     | (with_reducible refine' Nz.exc_set2 (by k_asm) (by k_asm) (by k_in) (Nz.mro51 _) (by first | exact Nz.take51t _ | exact Nz.take51l _) (Nz.set51 _) (by with_reducible assumption) (by with_reducible assumption) (by with_unfolding_all rfl) (by with_unfolding_all exact (show (2 : Nat) ≤ 1000 by decide)) ?_; intro _ _ _))
  k_with "getMethod type:Exception" => (k_here; refine' method_type (by k_asm) (by k_asm) Nz.meta_Exception (by decide +kernel) (by k_dflt k_is) (by k_handed) ?_)
  k_with "call builtin:Exception.__init__" => (k_here; refine' Nz.exc_init (by k_asm) (by k_asm) (by k_in) (by with_reducible assumption) ?_; intro _ _ _ _)
  trivial
namespace Nz
abbrev dict1 (P : PySem.Params) (tk : Tok) (v : Value) : Obj := dictOf [⟨PyData.keyHash P (PySem.Str.ofString "text"), .str (PySem.Str.ofString "text") tk, v⟩] 1
def RExc (P : PySem.Params) (e : Addr) (news : List (Addr × Obj)) (v : Value) : RetT := fun h₀ L m s Q _ => ∀ (D t2 : Addr) (tk : Tok) (h' : Heap) (tk' : Nat), Fr h₀ L h' m → News h₀ L h' ((e, excNew 51 t2 (some D)) :: (D, dict1 P tk v) :: news) → e ≠ D → (∀ q ∈ news, q.1 ≠ D) → Q .none { s with heap := h', toks := tk' }
abbrev dict2 (P : PySem.Params) (tk tk2 : Tok) (v v2 : Value) : Obj := dictOf [⟨PyData.keyHash P (PySem.Str.ofString "text"), .str (PySem.Str.ofString "text") tk, v⟩, ⟨PyData.keyHash P (PySem.Str.ofString "line"), .str (PySem.Str.ofString "line") tk2, v2⟩] 2
def RExc2 (P : PySem.Params) (e : Addr) (news : List (Addr × Obj)) (v v2 : Value) : RetT := fun h₀ L m s Q _ => ∀ (D t2 : Addr) (tk tk2 : Tok) (h' : Heap) (tk' : Nat), Fr h₀ L h' m → News h₀ L h' ((e, excNew 51 t2 (some D)) :: (D, dict2 P tk tk2 v v2) :: news) → e ≠ D → Q .none { s with heap := h', toks := tk' }
theorem ct_init28 (w mean mg mb news) (e t : Addr) (msg : List Nat) (tm : Tok) (he : ∀ q ∈ news, q.1 ≠ e) :
    Ct w mean mg mb 28 3 40 ((e, excNew 51 t none) :: news) [.ref e, .str (S msg) tm] (RExc w.params e news (.str (S msg) tm)) := by
  intro dp un gd cn cs' a ccd cl outer A₀ base h₀ L m s Q E B F X N T hk hd hu hret
  walk_at "nz in"
  k_steps
  exact hret _ _ _ _ _ (by assumption) (by assumption) (by assumption) (by assumption)
theorem Nz.reg_p42_inits_1 : True := by
  k_with "call ref" => (k_here; (guard_target =~ wpAny _ _ (call (Value.ref 28) _) _ _ _); (k_dflt (refine' Nz.Ct.use (Nz.ct_init28 _ _ _ _ ?_ ?_ ?_ ?_ ?_ (by with_reducible assumption)) (by k_asm) (by k_asm) (by k_asm) (by k_asm) (by k_asm) (by first | exact rfl | assumption) (by ktr_room) (by ktr_units) ?_)); intro _ _ _ _ _ _ _ _ _)
  trivial
theorem ct_init48 (w mean mg mb news) (e t : Addr) (msg : List Nat) (tm : Tok) (l : Int) (tl : Tok) (he : ∀ q ∈ news, q.1 ≠ e) :
    Ct w mean mg mb 48 4 50 ((e, excNew 51 t none) :: news) [.ref e, .str (S msg) tm, .int l tl] (RExc2 w.params e news (.str (S msg) tm) (.int l tl)) := by
  intro dp un gd cn cs' a ccd cl outer A₀ base h₀ L m s Q E B F X N T hk hd hu hret
  walk_at "nz in"
  k_steps
  exact hret _ _ _ _ _ _ (by assumption) (by assumption) (by assumption)
theorem Nz.reg_p42_inits_2 : True := by
  k_with "call ref" => (k_here; (guard_target =~ wpAny _ _ (call (Value.ref 48) _) _ _ _); (k_dflt (refine' Nz.Ct.use (Nz.ct_init48 _ _ _ _ ?_ ?_ ?_ ?_ ?_ ?_ ?_ (by with_reducible assumption)) (by k_asm) (by k_asm) (by k_asm) (by k_asm) (by k_asm) (by first | exact rfl | assumption) (by ktr_room) (by ktr_units) ?_)); intro _ _ _ _ _ _ _ _ _)
  trivial
end Nz

theorem Nz.reg_anew_p42_inits_0 : True := by
  k_with_none
  k_with "nz in" => (refine wpAny_call ?_; k_dflt ktr_enter)
  k_with "nz lit" => with_reducible first | exact Nz.lit_bs | exact Nz.lit_0 | exact Nz.lit_nl | exact Nz.lit_text | exact Nz.lit_x | exact Nz.lit_o | exact Nz.lit_lb | exact Nz.lit_rb | exact Nz.lit_N | exact Nz.lit_c | exact Nz.lit_dollar | exact Nz.lit_at | exact Nz.lit_dot | exact Nz.lit_E | exact Nz.lit_oct | exact Nz.lit_hex | exact Nz.lit_cases | exact Nz.lit_ul | exact Nz.lit_00 | exact Nz.lit_z | exact Nz.lit_bx | exact Nz.lit_bxb | exact Nz.lit_bob | exact Nz.lit_ops | exact Nz.lit_p1 | exact Nz.lit_p2 | exact Nz.lit_p3 | exact Nz.lit_p4 | exact Nz.lit_p5 | exact Nz.lit_p6 | exact Nz.lit_p7 | exact Nz.lit_p8
  k_with "nz sz" => first | with_reducible assumption | ((try simp only [List.length_cons, List.length_nil, List.length_append, List.length_take, List.length_drop, List.length_replicate]); omega)
  k_with "nz nat" => first | (with_reducible assumption) | (with_reducible exact rfl) | (with_reducible exact Nz.nz_c1 _ _) | (with_reducible exact Nz.nz_c0 _) | k_dflt (exact rfl)
  k_with "eval Constant str" => (k_here; (refine' Nz.nz_const (by walk_at "nz lit") ?_))
  k_with "nz slice" => (k_here; (with_reducible show wpAny _ _ (subscriptTail _ (Expr.Slice (some _) (some _) none _) (Value.str _ _) (Value.ref _)) _ _ _); (with_reducible rename Fr _ _ _ _ => F'); (with_reducible rename News _ _ _ _ => N'); first
     | ((with_reducible refine' Nz.nz_sliceG (k := 1) (s := ⟨_, _, _, _, _⟩) F' N' (by walk_at "nz nat") (by k_dflt (exact rfl)) (by k_dflt (walk_at "nz sz")) ?_ (by k_dflt (with_unfolding_all rfl)) (by k_dflt (intro _; with_unfolding_all rfl))); k_whole; intro _ _ _ _ _ _ hY; first
         | (cases Nz.take1K (by with_reducible assumption) hY; clear hY)
         | ((refine' Exists.elim (Nz.take1L hY (by k_dflt (walk_at "nz sz"))) ?_); clear hY; rintro _ ⟨_, e1⟩; subst e1)
         | (rcases Nz.take1C hY with ⟨_, _, _, e1⟩ | ⟨_, e1⟩ <;> subst e1 <;> clear hY))
     | ((with_reducible refine' Nz.nz_sliceG (s := ⟨_, _, _, _, _⟩) F' N' (by walk_at "nz nat") (by walk_at "nz nat") (by k_dflt (walk_at "nz sz")) ?_ (by k_dflt (with_unfolding_all rfl)) (by k_dflt (intro _; with_unfolding_all rfl))); k_whole; intro _ _ _ _ _ _ hY; subst hY)
     | ((with_reducible refine' Nz.nz_slice_le (s := ⟨_, _, _, _, _⟩) F' N' (by k_dflt (walk_at "nz sz")) (by walk_at "nz nat") (by walk_at "nz nat") (by k_dflt (walk_at "nz sz")) ?_ (by k_dflt (with_unfolding_all rfl)) (by k_dflt (intro _; with_unfolding_all rfl))); k_whole; intro _ _ _ _ _))
  k_with "nz sliceto" => (k_here; (with_reducible show wpAny _ _ (subscriptTail _ (Expr.Slice none (some _) none _) (Value.str _ _) (Value.ref _)) _ _ _); (with_reducible rename Fr _ _ _ _ => F'); (with_reducible rename News _ _ _ _ => N'); ((with_reducible refine' Nz.nz_slice_to (s := ⟨_, _, _, _, _⟩) F' N' (by walk_at "nz nat") (by k_dflt (walk_at "nz sz")) ?_ (by k_dflt (with_unfolding_all rfl)) (by k_dflt (intro _; with_unfolding_all rfl))); k_whole; intro _ _ _ _ _))
  k_with "subscriptTail Name Slice str ref" => walk_at "nz sliceto"
  k_with "call builtin:str.lower" => (k_here; first | ((with_reducible refine' Nz.nz_lower (by with_reducible assumption) (by k_dflt (walk_at "nz sz")) ?_); intro _) | refine Nz.Hold.out ?_)
  k_with "call builtin:str.find" => (k_here; first | ((with_reducible refine' Nz.nz_find (by first | walk_at "nz lit" | exact rfl) (by with_reducible assumption) ?_); intro _) | ((with_reducible refine' Nz.nz_find3 (by walk_at "nz nat") (by k_dflt (walk_at "nz sz")) (by with_reducible assumption) (by with_reducible assumption) ?_); intro _) | refine Nz.Hold.out ?_)
  k_with "nz item" => (k_here; (with_reducible show wpAny _ _ (subscriptTail _ _ (Value.str _ _) (Value.int _ _)) _ _ _); first
     | ((with_reducible refine' Nz.nz_itemK (by k_dflt (walk_at "nz sz")) (by walk_at "nz nat") (by with_reducible assumption) ?_ (by k_dflt (with_unfolding_all rfl)) (by k_dflt (intro _; with_unfolding_all rfl))); k_whole)
     | ((with_reducible refine' Nz.nz_item (by k_dflt (walk_at "nz sz")) (by walk_at "nz nat") (by k_dflt (walk_at "nz sz")) ?_ (by k_dflt (with_unfolding_all rfl)) (by k_dflt (intro _; with_unfolding_all rfl))); k_whole; intro _ _))
  k_with "subscriptTail Name Slice str ref" => walk_at "nz slice"
  k_with "subscriptTail" => walk_at "nz item"
  k_with "subscriptTail Name Name str int" => walk_at "nz item"
  k_with "subscriptTail Name BinOp str int" => walk_at "nz item"
  k_with "subscriptTail Name Constant str int" => walk_at "nz item"
  k_with "call builtin:len" => (k_here; (with_reducible show wpAny _ _ (call (Value.builtin _) [Value.str _ _]) _ _ _); (refine' Nz.nz_len (by walk_at "nz sz") ?_))
  k_with "compareOp Eq str str" => (k_here; first | refine Nz.nz_eq1 ?_ | refine Nz.nz_eq10 ?_ | refine Nz.nz_eq00 ?_ | refine Nz.nz_eq01 ?_ | refine Nz.nz_eq ?_)
  k_with "compareOp NotEq str str" => (k_here; first | refine Nz.nz_ne1 ?_ | refine Nz.nz_ne10 ?_ | refine Nz.nz_ne00 ?_ | refine Nz.nz_ne01 ?_ | refine Nz.nz_ne ?_)
  k_with "compareOp In str str" => (k_here; first | ((with_reducible refine' Nz.nz_inF (by with_reducible assumption) ?_)) | ((with_reducible refine' Nz.nz_inT (by with_reducible assumption) ?_)) | refine Nz.nz_in ?_)
  k_with "binaryOp Add str str" => (k_here; first | ((with_reducible refine' Nz.nz_add (by k_dflt (walk_at "nz sz")) ?_); intro _ _) | refine Nz.Hold.out ?_)
  k_with "inplaceOp Add str str" => (k_here; first | ((with_reducible refine' Nz.nz_iadd (by k_dflt (walk_at "nz sz")) ?_); intro _ _) | refine Nz.Hold.out ?_)
  k_with "exec While Compare cons nil" => (k_here; refine Nz.Hold.out ?_)
  k_with "exec While BoolOp cons nil" => (k_here; refine Nz.Hold.out ?_)
  k_with "nz end" => ((rename Fr _ _ _ _ => eF); (rename News _ _ _ _ => eN); (refine Nz.Hold.mk ?_); first
     | (refine' ksw_end (_, _, _, _) eF eN (fun _ h => h) trivial (by kst_all) (by ksw_same) ?kp ?km))
  k_with "exec For Name Name cons nil" => (k_here; (rename Fr _ _ _ _ => lF'); k_dflt (with_unfolding_all refine' For_invVF lF' (by exact rfl) (by exact rfl) ?_; k_whole))
  k_with "exec For Name Call cons nil" => (k_here; (rename Fr _ _ _ _ => lF'); k_dflt (with_unfolding_all refine' For_invVF lF' (by exact rfl) (by exact rfl) ?_; k_whole))
  k_with "nz tabitem" => (k_here; (with_reducible show wpAny _ _ (subscriptTail _ _ (Value.ref _) (Value.str _ _)) _ _ _); (try kt_k); k_dflt (refine' item_strTab (by kt_ktab) (by with_reducible assumption) ?_; k_whole); intro _ hv'; (refine' Exists.elim (PyProof.V.Flat.str_inv hv') ?_); intro tv ev; subst ev; clear hv')
  k_with "compareOp In str ref" => (k_here; (try kt_k); k_dflt (refine' Nz.nz_inTab (by with_reducible assumption) (by kt_ktab) ?_; k_whole); intro _; (try dsimp only [Option.isSome]))
  k_with "subscriptTail" => walk_at "nz tabitem"
  k_with "getItem ref str" => (k_here; k_dflt (refine' getItem_tab PyProof.V.same_str (strKind_is _ _ _ _) (by k_tabat) (by with_reducible assumption) ?_; k_whole); intro _ hv'; (refine' Exists.elim (PyProof.V.Flat.str_inv hv') ?_); intro tv ev; subst ev; clear hv')
  k_with "nz slicelast" => (k_here; (with_reducible show wpAny _ _ (subscriptTail _ (Expr.Slice (some _) none none _) (Value.str _ _) (Value.ref _)) _ _ _); (with_reducible rename Fr _ _ _ _ => F'); (with_reducible rename News _ _ _ _ => N'); ((with_reducible refine' Nz.nz_slice_last (s := ⟨_, _, _, _, _⟩) F' N' (by k_dflt (exact rfl)) (by decide) (by k_dflt (walk_at "nz sz")) ?_ (by k_dflt (with_unfolding_all rfl)) (by k_dflt (intro _; with_unfolding_all rfl))); k_whole; intro _ _ _ _ _))
  k_with "subscriptTail BinOp" => walk_at "nz slicelast"
  k_with "InvEndN" => refine Nz.Hold.out ?_
  k_with "InvEndG" => refine Nz.Hold.out ?_
  k_with "pyIter str" => (k_here; refine Nz.Hold.out ?_)
  k_with "pyIter ref" => (k_here; refine Nz.Hold.out ?_)
  k_with "KswEnd" => refine Nz.Hold.out ?_
  k_with "call ref" => (k_here; (with_reducible show wpAny _ (Around.deeper callerA _) _ _ _ _); refine Nz.Hold.out ?_)
  k_with "call ref" => (k_here; (guard_target =~ wpAny _ _ (call (Value.ref 62) _) _ _ _); (k_dflt (refine' Nz.Ct.use (Nz.ct_closer _ _ _ _ _ _ _) (by k_asm) (by k_asm) (by k_asm) (by k_asm) (by k_asm) (by first | exact rfl | assumption) (by ktr_room) (by ktr_units) ?_)); (unfold Nz.RS; intro _ _ _ _ _; (try dsimp only)))
  k_with "call ref" => (k_here; (guard_target =~ wpAny _ _ (call (Value.ref 76) _) _ _ _); (k_dflt (refine' Nz.Ct.use (Nz.ct_delimited _ _ _ _ _ _ _ _ _ _ _ (by (walk_at "nz sz")) (by assumption) (by assumption)) (by k_asm) (by k_asm) (by k_asm) (by k_asm) (by k_asm) (by first | exact rfl | assumption) (by ktr_room) (by ktr_units) ?_)); (unfold Nz.RDel; intro _ _ _ _ _ _ _ _ l1; (try k_lt l1); (try dsimp only)))
  k_with "call ref" => (k_here; (guard_target =~ wpAny _ _ (call (Value.ref 83) _) _ _ _); (k_dflt (refine' Nz.Ct.use (Nz.ct_unguarded _ _ _ _ _ _ _ _ _ _ (by (walk_at "nz sz"))) (by k_asm) (by k_asm) (by k_asm) (by k_asm) (by k_asm) (by first | exact rfl | assumption) (by ktr_room) (by ktr_units) ?_)); (unfold Nz.RS; intro _ _ _ _ _; (try dsimp only)))
  k_with "call ref" => (k_here; (guard_target =~ wpAny _ _ (call (Value.ref 97) _) _ _ _); (k_dflt (refine' Nz.Ct.use (Nz.ct_digits _ _ _ _ _ _ _ _ _ _ _ _ _ _ (by (walk_at "nz nat")) (by (walk_at "nz nat")) (by (walk_at "nz nat")) (by (walk_at "nz sz")) (by assumption) (by assumption) (by omega) (by omega) (by assumption) (by omega) (by omega)) (by k_asm) (by k_asm) (by k_asm) (by k_asm) (by k_asm) (by first | exact rfl | assumption) (by ktr_room) (by ktr_units) ?_)); (unfold Nz.RTup2; intro _ _ _ _ _ _ _ _ l1; (try k_lt l1); (try dsimp only)))
  k_with "call ref" => (k_here; (guard_target =~ wpAny _ _ (call (Value.ref 104) _) _ _ _); (k_dflt (refine' Nz.Ct.use (Nz.ct_coded _ _ _ _ _ _ _ (by omega)) (by k_asm) (by k_asm) (by k_asm) (by k_asm) (by k_asm) (by first | exact rfl | assumption) (by ktr_room) (by ktr_units) ?_)); (unfold Nz.RS; intro _ _ _ _ _; (try dsimp only)))
  k_with "call ref" => (k_here; (guard_target =~ wpAny _ _ (call (Value.ref 69) _) _ _ _); (k_dflt (refine' Nz.Ct.use (Nz.ct_line _ _ _ _ _ _ _ _ _ (by (walk_at "nz sz"))) (by k_asm) (by k_asm) (by k_asm) (by k_asm) (by k_asm) (by first | exact rfl | assumption) (by ktr_room) (by ktr_units) ?_)); (unfold Nz.RI; intro _ _ _ _ _; (try dsimp only)))
  k_with "call ref" => (k_here; (guard_target =~ wpAny _ _ (call (Value.ref 111) _) _ _ _); (k_dflt (refine' Nz.Ct.use (Nz.ct_braced _ _ _ _ _ _ _ _ _ _ _ _ _ (by (walk_at "nz nat")) (by (walk_at "nz nat")) (by (walk_at "nz sz")) (by assumption) (by assumption) (by assumption) (by assumption) (by assumption) (by decide) (by decide) (by assumption)) (by k_asm) (by k_asm) (by k_asm) (by k_asm) (by k_asm) (by first | exact rfl | assumption) (by ktr_room) (by ktr_units) ?_)); (unfold Nz.RTup2; intro _ _ _ _ _ _ _ _ l1; (try k_lt l1); (try dsimp only)))
  k_with "call ref" => (k_here; (guard_target =~ wpAny _ _ (call (Value.ref 118) _) _ _ _); (k_dflt (refine' Nz.Ct.use (Nz.ct_escok _ _ _ (by (walk_at "nz nat")) (by assumption)) (by k_asm) (by k_asm) (by k_asm) (by k_asm) (by k_asm) (by first | exact rfl | assumption) (by ktr_room) (by ktr_units) ?_)); (unfold Nz.RTup2; intro _ _ _ _ _ _ _ _ l1; (try k_lt l1); (try dsimp only)))
  k_with "call ref" => (k_here; (guard_target =~ wpAny _ _ (call (Value.ref 279) _) _ _ _); (k_dflt (refine' Nz.Ct.use (Nz.ct_take_esc _ _ _ _ _ _ _ _ _ _ _ _ _ _ (by (walk_at "nz nat")) (by with_reducible assumption) (by with_reducible assumption) (by with_reducible assumption) (by with_reducible assumption) (by with_reducible assumption)) (by k_asm) (by k_asm) (by k_asm) (by k_asm) (by k_asm) (by first | exact rfl | assumption) (by ktr_room) (by ktr_units) ?_)); (unfold Nz.RTake; intro _ _ _ _ hStk _ _; (try dsimp only)))
  k_with "call ref" => (k_here; (guard_target =~ wpAny _ _ (call (Value.ref 279) _) _ _ _); (k_dflt (refine' Nz.Ct.use (Nz.ct_take_plain _ _ _ _ _ _ _ _ _ _ _ _ _ (by (walk_at "nz nat")) (by with_reducible assumption) (by with_reducible assumption) (by with_reducible assumption) (by with_reducible assumption) (by with_reducible assumption) (by with_reducible assumption) (by with_reducible assumption)) (by k_asm) (by k_asm) (by k_asm) (by k_asm) (by k_asm) (by first | exact rfl | assumption) (by ktr_room) (by ktr_units) ?_)); (unfold Nz.RTake; intro _ _ _ _ hStk _ _; (try dsimp only)))
  k_with "call ref" => (k_here; (guard_target =~ wpAny _ _ (call (Value.ref 286) _) _ _ _); (k_dflt (refine' Nz.Ct.use (Nz.ct_parts _ _ _ _ _ _ _ _ (by (walk_at "nz sz")) (by assumption)) (by k_asm) (by k_asm) (by k_asm) (by k_asm) (by k_asm) (by first | exact rfl | assumption) (by ktr_room) (by ktr_units) ?_)); (unfold Nz.RParts; refine' ⟨fun hE _ _ _ _ _ _ l1 => ?_, fun hE _ _ _ _ _ _ _ _ _ _ l1 l2 => ?_⟩ <;> ((try k_lt l1); (try k_lt2 l2); (try dsimp only))))
  k_with "call ref" => (k_here; (guard_target =~ wpAny _ _ (call (Value.ref 90) _) _ _ _); (k_dflt (refine' Nz.Ct.use (Nz.ct_readq _ _ _ _ _ _ _ _ _ (by (walk_at "nz sz"))) (by k_asm) (by k_asm) (by k_asm) (by k_asm) (by k_asm) (by first | exact rfl | assumption) (by ktr_room) (by ktr_units) ?_)); (unfold Nz.RS; intro _ _ _ _ _; (try dsimp only)))
  k_with "call ref" => (k_here; (guard_target =~ wpAny _ _ (call (Value.ref 308) _) _ _ _); (k_dflt (refine' Nz.Ct.use2 (by k_asm) (Nz.ct_take _ _ _ _ _ _ _ _ _ _ _ _ _ _ _ (by (walk_at "nz nat")) (by with_reducible assumption) (by (first | with_reducible assumption | omega)) (by (first | omega | exact Nat.zero_le _ | decide)) (by (first | decide | omega)) (by (first | decide | omega)) (by (first | with_reducible assumption | omega)) (by (first | with_reducible assumption | walk_at "nz ne")) (by (first | with_reducible assumption | exact rfl))) (by k_asm) (by k_asm) (by k_asm) (by k_asm) (by first | exact rfl | assumption) (by ktr_room) (by ktr_units) ?_)); (unfold Nz.RTape; intro _ _ _ _ _ _ _; (try dsimp only)))
  k_with "call ref" => (k_here; (guard_target =~ wpAny _ _ (call (Value.ref 300) _) _ _ _); (k_dflt (refine' Nz.Ct.use (Nz.ct_ends _ _ _ _ _) (by k_asm) (by k_asm) (by k_asm) (by k_asm) (by k_asm) (by first | exact rfl | assumption) (by ktr_room) (by ktr_units) ?_)); (unfold Nz.RDict; intro _ _ _ _ _ _ _ l1 _ _ _; (try k_lt l1); (try dsimp only)))
  k_with "call ref" => (k_here; (guard_target =~ wpAny _ _ (call (Value.ref 315) _) _ _ _); (k_dflt (refine' Nz.Ct.use (Nz.ct_based _ _ _ _ _ _ _ _ _ (by (walk_at "nz nat")) (by (first | with_reducible assumption | omega)) (by (first | exact .inl rfl | exact .inr rfl))) (by k_asm) (by k_asm) (by k_asm) (by k_asm) (by k_asm) (by first | exact rfl | assumption) (by ktr_room) (by ktr_units) ?_)); (unfold Nz.RS; intro _ _ _ _ _; (try dsimp only)))
  k_with "call ref" => (k_here; (guard_target =~ wpAny _ _ (call (Value.ref 322) _) _ _ _); (k_dflt (refine' Nz.Ct.use (Nz.ct_inq _ _ _ _ _ _ _ _ _ _ (by (first | with_reducible assumption | omega)) (by with_reducible assumption) (by exact rfl)) (by k_asm) (by k_asm) (by k_asm) (by k_asm) (by k_asm) (by first | exact rfl | assumption) (by ktr_room) (by ktr_units) ?_)); (unfold Nz.RS; intro _ _ _ _ _; (try dsimp only)))
  k_with "call ref" => (k_here; (guard_target =~ wpAny _ _ (call (Value.ref 28) _) _ _ _); (k_dflt (refine' Nz.Ct.use (Nz.ct_init28 _ _ _ _ ?_ ?_ ?_ ?_ ?_ (by with_reducible assumption)) (by k_asm) (by k_asm) (by k_asm) (by k_asm) (by k_asm) (by first | exact rfl | assumption) (by ktr_room) (by ktr_units) ?_)); intro _ _ _ _ _ _ _ _ _)
  k_with "call ref" => (k_here; (guard_target =~ wpAny _ _ (call (Value.ref 48) _) _ _ _); (k_dflt (refine' Nz.Ct.use (Nz.ct_init48 _ _ _ _ ?_ ?_ ?_ ?_ ?_ ?_ ?_ (by with_reducible assumption)) (by k_asm) (by k_asm) (by k_asm) (by k_asm) (by k_asm) (by first | exact rfl | assumption) (by ktr_room) (by ktr_units) ?_)); intro _ _ _ _ _ _ _ _ _)
  trivial
namespace Nz
-- an exception with a dict of its own in flight
/-- what is known of it: its class, its dict, and the entry of its traceback that says which frame holds it -/
def FlX (base : Heap) (l : List Env) (e D : Addr) (cls fl : Value) (h : Heap) : Prop :=
  base.StaysIn h ∧ base.get? e = none ∧ h.FunFrames base l ∧ ∃ oe vs T oT ts, h.get? e = some oe ∧ (oe.cls = cls ∧ oe.dict = some D) ∧ oe.data = .fields vs ∧ vs[1]? = some (.ref T) ∧ base.get? T = none ∧ T ≠ e ∧ h.get? T = some oT ∧ oT.data = .fields ts ∧ ts[3]? = some fl
theorem dict_mapFields (f : Array Value → Array Value) (o : Obj) : (o.mapFields f).dict = o.dict := by obtain ⟨c, d, da, s⟩ := o; cases da <;> rfl
section
variable {M : Model} {A : Around} {E : Value → Shared → Prop} {s : Shared} {base : Heap} {env : Env} {outer : List Env} {L e D : Addr} {Q : Unit → Shared → Prop} {cls : Value}
theorem flx_entry {oe : Obj} {vs : Array Value} {head : Value} {hadNext : Bool} (hfr : A.frames = some (env :: outer)) (hl : s.heap.FunFrames base (env :: outer)) (hf : env.frame = some L)
    (he : s.heap.get? e = some oe) (hc : oe.cls = cls ∧ oe.dict = some D) (hkb : base.StaysIn s.heap) (hen : base.get? e = none) (hd : oe.data = .fields vs) (hsz : 1 < vs.size)
    (h : ∀ h', FlX base (env :: outer) e D cls (rawInt L) h' → s.heap.UpToSlots h' → Q () { s with heap := h' }) :
    wpAny M A (do let a ← frameOf env; let pl ← entryPlaceOf L hadNext; let b ← EntryCells.newEntry head a .none (rawInt L) .none pl; setField (.ref e) 1 b) Q E s := by
  have apart : ∀ b ob, s.heap.get? b = some ob → (∀ ws, ob.data ≠ .fields ws) → b ≠ e := fun b ob hb hn q => by
    subst q; rw [he] at hb; cases hb; exact hn vs hd
  have hene : e ∉ (env :: outer).filterMap (·.frame) := fun hm => by
    obtain ⟨_, o, ho, hnf⟩ := hl.mem hm
    exact apart e o ho hnf rfl
  refine wpAny_bind (wpAny_frameOf_fun hfr hl hf fun h₁ hs₁ => wpAny_bind (wpAny_entryPlaceOf fun pl hpl => ?_))
  unfold EntryCells.newEntry newFields
  refine wpAny_bind (wpAny_newObj_type ?_ (hpl.sizeOk5 _ _ _ _ _))
  have he₁ : h₁.get? e = some oe := (hs₁.2.1 e hene).trans he
  have kb₁ : base.StaysIn h₁ := fun b o hbo => (hs₁.2.1 b fun hm => by rw [(hl.mem hm).1] at hbo; cases hbo).trans (hkb b o hbo)
  generalize hoT : ({ cls := .type "traceback", dict := none, data := .fields ([head, .ref L, .none, rawInt L, .none] ++ (if pl.isEmpty then List.replicate 6 Value.none else pl)).toArray } : Obj) = oT
  have hfree : oT.isFreed = false := by rw [← hoT]; rfl
  have he₂ := Heap.get?_push_of_some (h := h₁) oT he₁
  refine wpAny_setField he₂ hd hsz (h _ ?_ ?_)
  · have hTe : h₁.objs.size ≠ e := Nat.ne_of_gt (Heap.lt_size he₁)
    have hd₃ := Obj.data_mapFields hd (·.setIfInBounds 1 (Value.ref h₁.objs.size))
    refine ⟨fun b o hbo => ?_, hen, hl.of_keeps fun b o hb hnf => ?_, _, _, h₁.objs.size, oT, _, Heap.get?_update_self _ he₂ (Obj.isFreed_of_fields hd₃), ⟨(Obj.cls_mapFields _ _).trans hc.1, (dict_mapFields _ _).trans hc.2⟩, hd₃, by simp [hsz], kb₁.fresh, hTe, (Heap.get?_update_other _ _ (Ne.symm hTe)).trans (Heap.get?_push_size h₁ hfree), by rw [← hoT], ?_⟩
    · rw [Heap.get?_update_other _ _ (fun q => by rw [← q, hen] at hbo; cases hbo)]
      exact Heap.get?_push_of_some _ (kb₁ b o hbo)
    · obtain ⟨sl, hs⟩ := hs₁.2.2 b o hb
      exact ⟨_, (Heap.get?_update_other _ _ (Ne.symm (apart b o hb hnf))).trans (Heap.get?_push_of_some _ hs), rfl⟩
    · rcases hpl with rfl | ⟨_, _, _, _, _, _, _, rfl⟩ <;> simp
  · intro b o hb hnf
    obtain ⟨sl, hs⟩ := hs₁.2.2 b o hb
    exact ⟨sl, (Heap.get?_update_other _ _ (Ne.symm (apart b o hb hnf))).trans (Heap.get?_push_of_some _ hs)⟩
theorem flx_first {oe : Obj} {vs : Array Value} (hfr : A.frames = some (env :: outer)) (hl : s.heap.FunFrames base (env :: outer)) (hf : env.frame = some L)
    (he : s.heap.get? e = some oe) (hc : oe.cls = cls ∧ oe.dict = some D) (hkb : base.StaysIn s.heap) (hen : base.get? e = none) (hd : oe.data = .fields vs) (h1 : vs[1]? = some .none)
    (h : ∀ h', FlX base (env :: outer) e D cls (rawInt L) h' → s.heap.UpToSlots h' → Q () { s with heap := h' }) : wpAny M A (noteFrame (.ref e) env) Q E s := by
  unfold noteFrame
  simp only [hf]
  refine wpAny_bind (wpAny_field he hd h1 ?_)
  rw [if_neg (by decide)]
  exact flx_entry hfr hl hf he hc hkb hen hd (Array.getElem?_eq_some_iff.mp h1).1 h
theorem flx_on (hfr : A.frames = some (env :: outer)) (hf : env.frame = some L) (x : FlX base (env :: outer) e D cls .none s.heap)
    (h : ∀ h', FlX base (env :: outer) e D cls (rawInt L) h' → s.heap.UpToSlots h' → Q () { s with heap := h' }) : wpAny M A (noteFrame (.ref e) env) Q E s := by
  obtain ⟨hkb, hen, hl, oe, vs, T, oT, ts, he, hc, hd, h1, hnT, hTe, hT, hdT, h3⟩ := x
  unfold noteFrame
  simp only [hf]
  refine wpAny_bind (wpAny_field he hd h1 ?_)
  rw [if_pos (show (Value.ref T != Value.none) = true from by simp)]
  refine wpAny_bind (wpAny_field hT hdT h3 ?_)
  rw [if_neg (show ¬ ((Value.none == rawInt L) = true) from by simp [rawInt])]
  refine wpAny_bind (wpAny_setField hT hdT (Array.getElem?_eq_some_iff.mp h3).1 ?_)
  have other : ∀ b, b ≠ T → (s.heap.update T (Obj.mapFields (·.setIfInBounds 3 Value.none))).get? b = s.heap.get? b := fun b hb => Heap.get?_update_other _ _ (Ne.symm hb)
  have apart : ∀ b ob, s.heap.get? b = some ob → (∀ ws, ob.data ≠ .fields ws) → b ≠ T := fun b ob hb hn q => by
    subst q; rw [hT] at hb; cases hb; exact hn ts hdT
  refine flx_entry hfr (hl.of_keeps fun b o hb hn => ⟨o, (other b (apart b o hb hn)).trans hb, rfl⟩) hf ((other e (Ne.symm hTe)).trans he) hc (fun b o hbo => (other b fun q => by rw [q, hnT] at hbo; cases hbo).trans (hkb b o hbo)) hen hd (Array.getElem?_eq_some_iff.mp h1).1 fun h' x1 x2 => h h' x1 fun b o hb hn => x2 b o ((other b (apart b o hb hn)).trans hb) hn
theorem flx_lands {l : List Env} {fl : Value} (x : FlX base l e D cls fl s.heap) (h : ∀ h', FlX base l e D cls .none h' → s.heap.UpToSlots h' → Q () { s with heap := h' }) : wpAny M A (setFlight (.ref e) none) Q E s := by
  obtain ⟨hkb, hen, hl, oe, vs, T, oT, ts, he, hc, hd, h1, hnT, hTe, hT, hdT, h3⟩ := x
  have hsz3 : 3 < ts.size := (Array.getElem?_eq_some_iff.mp h3).1
  have other : ∀ b, b ≠ T → (s.heap.update T (Obj.mapFields (·.setIfInBounds 3 ((none : Option Addr).elim Value.none fun f => rawInt f)))).get? b = s.heap.get? b := fun b hb => Heap.get?_update_other _ _ (Ne.symm hb)
  have apart : ∀ b ob, s.heap.get? b = some ob → (∀ ws, ob.data ≠ .fields ws) → b ≠ T := fun b ob hb hn q => by
    subst q; rw [hT] at hb; cases hb; exact hn ts hdT
  unfold setFlight
  refine wpAny_bind (wpAny_field he hd h1 ?_)
  rw [if_pos (show (Value.ref T != Value.none) = true from by simp)]
  refine wpAny_setField hT hdT hsz3 (h _ ⟨fun b o hbo => (other b fun q => by rw [q, hnT] at hbo; cases hbo).trans (hkb b o hbo), hen, hl.of_keeps fun b o hb hn => ⟨o, (other b (apart b o hb hn)).trans hb, rfl⟩,
    oe, vs, T, _, _, (other e (Ne.symm hTe)).trans he, hc, hd, h1, hnT, hTe, Heap.get?_update_self _ hT (Obj.isFreed_of_fields (Obj.data_mapFields hdT _)), Obj.data_mapFields hdT _, by simp [hsz3]⟩ fun b o hb hn => ⟨o.slots, (other b (apart b o hb hn)).trans hb⟩)
theorem flx_base {B h : Heap} {l : List Env} {fl : Value} (k : base.StaysIn B) (x : FlX B l e D cls fl h) : FlX base l e D cls fl h := by
  obtain ⟨f1, f2, f3, oe, vs, T, oT, ts, a1, a2, a3, a4, a5, a6⟩ := x
  exact ⟨fun b o q => f1 b o (k b o q), fresh_of_stays k f2, funFrames_base k f3, oe, vs, T, oT, ts, a1, a2, a3, a4, fresh_of_stays k a5, a6⟩
/-- raised, and the frames `l` not yet left -/
def RaisedX (base : Heap) (l : List Env) (e D : Addr) (cls : Value) (news : List (Addr × Obj)) (h : Heap) : Prop :=
  ∃ B, base.StaysIn B ∧ (∀ q ∈ news, B.get? q.1 = some q.2 ∧ base.get? q.1 = none) ∧ FlX B l e D cls .none h
theorem leave_raiseX {g : Heap} {a t C : Addr} {m : PySem.Str → Option Value} {name : PySem.Str} {scope : Scope} {cd : Value} {news : List (Addr × Obj)} (K : Below A base outer g) (F : Fr g L s.heap m)
    (N : News g L s.heap ((e, excNew C t (some D)) :: news)) (hne : ∀ q ∈ news, q.1 ≠ e) (hQ : ∀ h', RaisedX base outer e D (.ref C) news h' → g.UpToSlots h' → Q () { s with heap := h' }) (hk : scope.kind = .function) :
    wpAny M (A.deeper (envOf name scope L a cd)) (leaving (envOf name scope L a cd) (.ref e)) Q E s := by
  have K' := K.push (name := name) (a := a) (cd := cd) F hk
  generalize hfs : (envOf name scope L a cd :: outer).filterMap (·.frame) = fs
  have hin : ∀ env ∈ (envOf name scope L a cd :: outer), ∀ b, env.frame = some b → b ∈ e :: fs := fun env he b hb => .tail _ (hfs ▸ List.mem_filterMap.mpr ⟨env, he, hb⟩)
  have hge := (N _ (.head _)).1
  have ben : base.get? e = none := fresh_of_stays K.stays (N _ (.head _)).2.2
  have st : base.StaysIn (hideAll s.heap (e :: fs)) := fun b o q => hideAll_get _ (K'.stays b o q) fun hm => by
    rcases List.mem_cons.mp hm with rfl | hm
    · rw [ben] at q; cases q
    · rw [(K'.frames.mem (hfs ▸ hm)).1] at q; cases q
  have hl : ∀ q ∈ news, (hideAll s.heap (e :: fs)).get? q.1 = some q.2 ∧ base.get? q.1 = none := fun q hq => by
    have Nq := N q (.tail _ hq)
    refine ⟨hideAll_get _ Nq.1 fun hm => ?_, fresh_of_stays K.stays Nq.2.2⟩
    rcases List.mem_cons.mp hm with hm | hm
    · exact hne q hq hm
    · rw [← hfs] at hm
      obtain ⟨env, he, hf⟩ := List.mem_filterMap.mp hm
      rcases List.mem_cons.mp he with rfl | he
      · exact Nq.2.1 (Option.some.inj hf).symm
      · obtain ⟨o, ho, _⟩ := (K.frames.mem (List.mem_filterMap.mpr ⟨env, he, hf⟩)).2
        rw [Nq.2.2] at ho; cases ho
  unfold leaving
  refine wpAny_bind (flx_first (base := hideAll s.heap (e :: fs)) (D := D) K'.stack (funFrames_hide K'.frames hin) rfl hge ⟨rfl, rfl⟩ (fun b o q => of_hideAll _ q) (hideAll_none _ (.head _)) rfl rfl fun h₁ x1 u1 => ?_)
  refine flx_lands x1 fun h₂ x2 u2 => hQ h₂ ⟨_, st, hl, ?_⟩ ((Heap.UpToSlots.of_keeps F.keep).trans (u1.trans u2))
  obtain ⟨k1, k2, ⟨_, _, k3⟩, k4⟩ := x2
  exact ⟨k1, k2, k3, k4⟩
end
end Nz

namespace Nz
section
variable {w : World} {A : Around} {E : Value → Shared → Prop} {s : Shared} {env : Env}
theorem exc_raise {x : PySem.Str} {np cpos pos : Pos} {args : List Expr} {Q : Flow → Shared → Prop} (hh : A.handled = none)
    (h : wpAny (model PR w) A (eval (.Call (.Name x np) args [] cpos) env) (fun v s₁ => Hold (∃ e t D, v = .ref e ∧ (hd.heap_39 w.params).In s₁.heap ∧ s₁.heap.get? e = some (excNew 51 t D) ∧ E (.ref e) s₁)) E s) :
    wpAny (model PR w) A (exec (.Raise (some (.Call (.Name x np) args [] cpos)) none pos) env) Q E s := by
  obtain ⟨nm, q, bs, hdct, sn, sub, ab, col, dd, k0, k1, k2, k3, k5, hK⟩ := cls51 w.params
  rw [arm_exec_Raise]
  have key : wpAny (model PR w) A (eval (.Call (.Name x np) args [] cpos) env) (fun v s₁ => ∃ e t D, v = .ref e ∧ s₁.heap.get? 51 = some (excClassObj nm q 51 50 bs [.ref 31, .type "Exception", .type "BaseException", .type "object"] hdct sn sub ab col dd k0 k1 k2 k3 k5 "Exception.__new__") ∧
      s₁.heap.get? e = some (excNew 51 t D) ∧ E (.ref e) s₁) E s := wpAny_mono h (fun v s₁ ⟨e, t, D, h1, h2, h3, h4⟩ => ⟨e, t, D, h1, h2 _ _ hK, h3, h4⟩) fun _ _ x => x
  first
    | refine wpAny_bind (wpAny_standAt (exc_raiseStmt (C := 51) (by decide +kernel) hh (wpAny_bind (wpAny_mono key (fun v s₃ h₃ => wpAny_bind (wpAny_standAt (wpAny_pure h₃))) fun _ _ x => x))))
    | (simp only [evalOpt, Option.map]; refine wpAny_bind (wpAny_standAt (exc_raiseStmt (C := 51) (by decide +kernel) hh (wpAny_bind (wpAny_mono key (fun v s₃ h₃ => wpAny_bind (wpAny_standAt (wpAny_pure h₃))) fun _ _ x => x)))))
theorem exc_make {mean : ExcName → Option Value} {mg mb : PySem.Str → Option Value} {dp un : Nat} {gd : Option (List Code)} {cn : PySem.Str} {cs : Scope} {a : Addr} {ccd : Value} {cl : List (PySem.Str × Addr)} {outer : List Env} {A₀ : Around} {base h₀ : Heap} {L : Addr} {m : PySem.Str → Option Value} {news : List (Addr × Obj)} {msg : List Nat} {tm tl : Tok} {l : Int}
    {Q : Value → Shared → Prop} (B : Below A₀ base outer h₀) (F : Fr h₀ L s.heap m) (X : (hd.heap_39 w.params).In h₀) (N : News h₀ L s.heap news) (T : Top hd.view_39 LO mean mg mb h₀) (hk : cs.kind = .function) (hd : dp + 6 < recursionLimit) (hu : un + 60 < cLine)
    (h : ∀ e t D tk tk2 h' tk', Fr h₀ L h' m → News h₀ L h' ((e, excNew 51 t (some D)) :: (D, dict2 w.params tk tk2 (.str (S msg) tm) (.int l tl)) :: news) → (∀ q ∈ (D, dict2 w.params tk tk2 (.str (S msg) tm) (.int l tl)) :: news, q.1 ≠ e) → Q (.ref e) { s with heap := h', toks := tk' }) :
    wpAny (model PR w) (ktrTop dp un gd cn cs L a ccd cl outer) (call (.ref 51) [.str (S msg) tm, .int l tl]) Q E s := by
  obtain ⟨nm, q, bs, hdct, sn, sub, ab, col, dd, k0, k1, k2, k3, k5, hK⟩ := cls51 w.params
  have Xs := X.keeps F.keep
  obtain ⟨hh, g, d, tk, os⟩ := s
  have N1 := News.push F N (tupD [.str (S msg) tm, .int l tl]) rfl
  have F1 := F.push (tupD [.str (S msg) tm, .int l tl])
  have N2 := News.push F1 N1 (excNew 51 hh.objs.size none) rfl
  have F2 := F1.push (excNew 51 hh.objs.size none)
  rw [Heap.size_push] at N2
  have hne : ∀ q ∈ news, q.1 ≠ hh.objs.size + 1 := fun q hq => by have := Heap.lt_size (N q hq).1; exact Nat.ne_of_lt (Nat.lt_succ_of_lt this)
  have N3 : News h₀ L ((hh.push (tupD [.str (S msg) tm, .int l tl])).push (excNew 51 hh.objs.size none)) ((hh.objs.size + 1, excNew 51 hh.objs.size none) :: news) := fun q hq => N2 q (by
    rcases List.mem_cons.mp hq with rfl | hq
    · exact .head _
    · exact .tail _ (.tail _ hq))
  refine exc_call (fI := 48) (by decide +kernel) (by decide +kernel) (by decide +kernel) (Xs _ _ hK) (looks_findIn Xs (by kernel_rfl)) (fun self => bind_fn Xs self (by kernel_rfl)) ?_ (by show 2 ≤ _; rw [sizeLine_eq]; decide)
  refine Ct.use (ct_init48 w mean mg mb news (hh.objs.size + 1) hh.objs.size msg tm l tl hne) (dp := dp + 1) (un := un + 1) (s := ⟨(hh.push (tupD [.str (S msg) tm, .int l tl])).push (excNew 51 hh.objs.size none), g, d, tk, os⟩) B F2 X N3 T hk (by omega) (by omega) ?_
  intro D t2 tk1 tk2 h' tk' F' N' hD
  refine ⟨rfl, h _ _ _ _ _ _ _ F' N' ?_⟩
  intro q hq
  rcases List.mem_cons.mp hq with rfl | hq
  · exact Ne.symm hD
  · exact hne q hq
end
end Nz

theorem Nz.reg_p45_delimf_0 : True := by
  k_with "nz lit" => with_reducible exact Nz.lit_eof
  k_with "exec Raise some none" => (k_here; with_reducible refine Nz.exc_raise rfl ?_)
  k_with "call ref" => (k_here; (k_dflt (refine' Nz.exc_make (by k_asm) (by k_asm) (by k_asm) (by k_asm) (by k_asm) (by first | exact rfl | assumption) (by ktr_room) (by ktr_units) ?_)); intro _ _ _ _ _ _ _ _ _ _)
  trivial
namespace Nz
theorem News.head_ {h₀ h : Heap} {L : Addr} {p : Addr × Obj} {news : List (Addr × Obj)} (N : News h₀ L h (p :: news)) : h.get? p.1 = some p.2 ∧ True := ⟨(N _ (.head _)).1, trivial⟩
set_option maxHeartbeats 4000000 in
theorem ct_delimF (w mean mg mb news) (l : List Nat) (t : Tok) (k : Nat) (u : Tok) (o : Nat) (hl : l.length ≤ 1000) (hko : l[k]? = some o) (hR : delimR o (closerN o) (l.drop (k + 1)) 1 (k + 1) = none)
    (dp un : Nat) (gd : Option (List Code)) (cn : PySem.Str) (cs : Scope) (a : Addr) (ccd : Value) (cl : List (PySem.Str × Addr)) (outer : List Env) (A₀ : Around) (base h₀ : Heap) (L : Addr) (m : PySem.Str → Option Value) (s : Shared)
    (Q E : Value → Shared → Prop)
    (B : Below A₀ base outer h₀) (F : Fr h₀ L s.heap m) (X : (hd.heap_39 w.params).In h₀) (N : News h₀ L s.heap news) (T : Top hd.view_39 LO mean mg mb h₀) (hk : cs.kind = .function) (hd : dp + 12 < recursionLimit) (hu : un + 100 < cLine)
    (hret : ∀ e D tk1 tk2 tm tl g h' tk', Fr h₀ L g m → g.UpToSlots h' → RaisedX base (envX cn cs L a ccd cl :: outer) e D (.ref 51) ((D, dict2 w.params tk1 tk2 (.str (S eofL) tm) (.int (1 + Txt.count (S (l.take k)) (S [10])) tl)) :: news) h' → E (.ref e) { s with heap := h', toks := tk' }) :
    wpAny (model PR w) (ktrTop dp un gd cn cs L a ccd cl outer) (call (.ref 76) [.str (S l) t, .int k u]) Q E s := by
  have hkl : k < l.length := (List.getElem?_eq_some_iff.mp hko).1
  walk_at "nz in"
  k_steps
  refine Hold.mk ?_
  rename Fr _ _ _ _ => lF'
  rename News _ _ _ _ => lN'
  refine' ksw_while (σ := Int × Int × Tok × Tok) (fun _ => news) (fun c => [(Str.ofString "end", .int c.1 c.2.2.1), (Str.ofString "depth", .int c.2.1 c.2.2.2)]) (fun _ => True) [Str.ofString "sign"]
      (fun c => ∃ n d : Nat, c.1 = n ∧ c.2.1 = d ∧ 1 ≤ d ∧ k + 1 ≤ n ∧ delimR o (closerN o) (l.drop n) d n = none) (fun c => (l.length + 2 - c.1).toNat) (_, _, _, _) lF' lN' trivial ?kk ?kp ?turn
  case kk => kst_all
  case kp => exact ⟨k + 1, 1, rfl, rfl, by omega, by omega, hR⟩
  clear lF' lN'
  rintro ⟨_, _, t1, t2⟩ kU kH kTk kFacts ⟨n, d, rfl, rfl, hd1, hkn, hI⟩ kFr kNews
  dsimp only [kstB] at kFr
  dsimp only at kNews ⊢
  k_steps
  all_goals first
    | (cases delim_end (by assumption) (by assumption) (by assumption) (by omega) hI)
    | ((rename Fr _ _ _ _ => eF); (rename News _ _ _ _ => eN); (refine Hold.mk ?_); (refine' ksw_end (_, _, _, _) eF eN (fun _ h => h) trivial (by kst_all) (by ksw_same) ?kp ?km); (case km => (dsimp only; omega)); (case kp => (dsimp only; first
      | exact ⟨n + 2, d, by omega, rfl, hd1, by omega, delim_bs (by assumption) (by assumption) hI⟩
      | exact ⟨n + 1, d - 1, by omega, by omega, by omega, by omega, delim_close (by assumption) (by assumption) (by assumption) (by omega) hI⟩
      | exact ⟨n + 1, d + 1, by omega, by omega, by omega, by omega, delim_open (by assumption) (by assumption) (by assumption) (by assumption) hI⟩
      | exact ⟨n + 1, d, by omega, by omega, by omega, by omega, delim_other (by assumption) (by assumption) (by assumption) (by assumption) hI⟩)))
    | (refine Hold.mk ⟨_, _, _, rfl, Frag.In.keeps (by assumption) (Fr.keep (by assumption)), (News.head_ (by assumption)).1, ?_⟩
       refine leave_raiseX (by assumption) (by assumption) (by assumption) (by assumption) (fun h' R U => hret _ _ _ _ _ _ _ _ _ (by assumption) U R) (by rfl))
end Nz

theorem Nz.reg_anew_p45_delimf_0 : True := by
  k_with_none
  k_with "nz in" => (refine wpAny_call ?_; k_dflt ktr_enter)
  k_with "nz lit" => with_reducible first | exact Nz.lit_bs | exact Nz.lit_0 | exact Nz.lit_nl | exact Nz.lit_text | exact Nz.lit_x | exact Nz.lit_o | exact Nz.lit_lb | exact Nz.lit_rb | exact Nz.lit_N | exact Nz.lit_c | exact Nz.lit_dollar | exact Nz.lit_at | exact Nz.lit_dot | exact Nz.lit_E | exact Nz.lit_oct | exact Nz.lit_hex | exact Nz.lit_cases | exact Nz.lit_ul | exact Nz.lit_00 | exact Nz.lit_z | exact Nz.lit_bx | exact Nz.lit_bxb | exact Nz.lit_bob | exact Nz.lit_ops | exact Nz.lit_p1 | exact Nz.lit_p2 | exact Nz.lit_p3 | exact Nz.lit_p4 | exact Nz.lit_p5 | exact Nz.lit_p6 | exact Nz.lit_p7 | exact Nz.lit_p8
  k_with "nz sz" => first | with_reducible assumption | ((try simp only [List.length_cons, List.length_nil, List.length_append, List.length_take, List.length_drop, List.length_replicate]); omega)
  k_with "nz nat" => first | (with_reducible assumption) | (with_reducible exact rfl) | (with_reducible exact Nz.nz_c1 _ _) | (with_reducible exact Nz.nz_c0 _) | k_dflt (exact rfl)
  k_with "eval Constant str" => (k_here; (refine' Nz.nz_const (by walk_at "nz lit") ?_))
  k_with "nz slice" => (k_here; (with_reducible show wpAny _ _ (subscriptTail _ (Expr.Slice (some _) (some _) none _) (Value.str _ _) (Value.ref _)) _ _ _); (with_reducible rename Fr _ _ _ _ => F'); (with_reducible rename News _ _ _ _ => N'); first
     | ((with_reducible refine' Nz.nz_sliceG (k := 1) (s := ⟨_, _, _, _, _⟩) F' N' (by walk_at "nz nat") (by k_dflt (exact rfl)) (by k_dflt (walk_at "nz sz")) ?_ (by k_dflt (with_unfolding_all rfl)) (by k_dflt (intro _; with_unfolding_all rfl))); k_whole; intro _ _ _ _ _ _ hY; first
         | (cases Nz.take1K (by with_reducible assumption) hY; clear hY)
         | ((refine' Exists.elim (Nz.take1L hY (by k_dflt (walk_at "nz sz"))) ?_); clear hY; rintro _ ⟨_, e1⟩; subst e1)
         | (rcases Nz.take1C hY with ⟨_, _, _, e1⟩ | ⟨_, e1⟩ <;> subst e1 <;> clear hY))
     | ((with_reducible refine' Nz.nz_sliceG (s := ⟨_, _, _, _, _⟩) F' N' (by walk_at "nz nat") (by walk_at "nz nat") (by k_dflt (walk_at "nz sz")) ?_ (by k_dflt (with_unfolding_all rfl)) (by k_dflt (intro _; with_unfolding_all rfl))); k_whole; intro _ _ _ _ _ _ hY; subst hY)
     | ((with_reducible refine' Nz.nz_slice_le (s := ⟨_, _, _, _, _⟩) F' N' (by k_dflt (walk_at "nz sz")) (by walk_at "nz nat") (by walk_at "nz nat") (by k_dflt (walk_at "nz sz")) ?_ (by k_dflt (with_unfolding_all rfl)) (by k_dflt (intro _; with_unfolding_all rfl))); k_whole; intro _ _ _ _ _))
  k_with "nz sliceto" => (k_here; (with_reducible show wpAny _ _ (subscriptTail _ (Expr.Slice none (some _) none _) (Value.str _ _) (Value.ref _)) _ _ _); (with_reducible rename Fr _ _ _ _ => F'); (with_reducible rename News _ _ _ _ => N'); ((with_reducible refine' Nz.nz_slice_to (s := ⟨_, _, _, _, _⟩) F' N' (by walk_at "nz nat") (by k_dflt (walk_at "nz sz")) ?_ (by k_dflt (with_unfolding_all rfl)) (by k_dflt (intro _; with_unfolding_all rfl))); k_whole; intro _ _ _ _ _))
  k_with "subscriptTail Name Slice str ref" => walk_at "nz sliceto"
  k_with "call builtin:str.lower" => (k_here; first | ((with_reducible refine' Nz.nz_lower (by with_reducible assumption) (by k_dflt (walk_at "nz sz")) ?_); intro _) | refine Nz.Hold.out ?_)
  k_with "call builtin:str.find" => (k_here; first | ((with_reducible refine' Nz.nz_find (by first | walk_at "nz lit" | exact rfl) (by with_reducible assumption) ?_); intro _) | ((with_reducible refine' Nz.nz_find3 (by walk_at "nz nat") (by k_dflt (walk_at "nz sz")) (by with_reducible assumption) (by with_reducible assumption) ?_); intro _) | refine Nz.Hold.out ?_)
  k_with "nz item" => (k_here; (with_reducible show wpAny _ _ (subscriptTail _ _ (Value.str _ _) (Value.int _ _)) _ _ _); first
     | ((with_reducible refine' Nz.nz_itemK (by k_dflt (walk_at "nz sz")) (by walk_at "nz nat") (by with_reducible assumption) ?_ (by k_dflt (with_unfolding_all rfl)) (by k_dflt (intro _; with_unfolding_all rfl))); k_whole)
     | ((with_reducible refine' Nz.nz_item (by k_dflt (walk_at "nz sz")) (by walk_at "nz nat") (by k_dflt (walk_at "nz sz")) ?_ (by k_dflt (with_unfolding_all rfl)) (by k_dflt (intro _; with_unfolding_all rfl))); k_whole; intro _ _))
  k_with "subscriptTail Name Slice str ref" => walk_at "nz slice"
  k_with "subscriptTail" => walk_at "nz item"
  k_with "subscriptTail Name Name str int" => walk_at "nz item"
  k_with "subscriptTail Name BinOp str int" => walk_at "nz item"
  k_with "subscriptTail Name Constant str int" => walk_at "nz item"
  k_with "call builtin:len" => (k_here; (with_reducible show wpAny _ _ (call (Value.builtin _) [Value.str _ _]) _ _ _); (refine' Nz.nz_len (by walk_at "nz sz") ?_))
  k_with "compareOp Eq str str" => (k_here; first | refine Nz.nz_eq1 ?_ | refine Nz.nz_eq10 ?_ | refine Nz.nz_eq00 ?_ | refine Nz.nz_eq01 ?_ | refine Nz.nz_eq ?_)
  k_with "compareOp NotEq str str" => (k_here; first | refine Nz.nz_ne1 ?_ | refine Nz.nz_ne10 ?_ | refine Nz.nz_ne00 ?_ | refine Nz.nz_ne01 ?_ | refine Nz.nz_ne ?_)
  k_with "compareOp In str str" => (k_here; first | ((with_reducible refine' Nz.nz_inF (by with_reducible assumption) ?_)) | ((with_reducible refine' Nz.nz_inT (by with_reducible assumption) ?_)) | refine Nz.nz_in ?_)
  k_with "binaryOp Add str str" => (k_here; first | ((with_reducible refine' Nz.nz_add (by k_dflt (walk_at "nz sz")) ?_); intro _ _) | refine Nz.Hold.out ?_)
  k_with "inplaceOp Add str str" => (k_here; first | ((with_reducible refine' Nz.nz_iadd (by k_dflt (walk_at "nz sz")) ?_); intro _ _) | refine Nz.Hold.out ?_)
  k_with "exec While Compare cons nil" => (k_here; refine Nz.Hold.out ?_)
  k_with "exec While BoolOp cons nil" => (k_here; refine Nz.Hold.out ?_)
  k_with "nz end" => ((rename Fr _ _ _ _ => eF); (rename News _ _ _ _ => eN); (refine Nz.Hold.mk ?_); first
     | (refine' ksw_end (_, _, _, _) eF eN (fun _ h => h) trivial (by kst_all) (by ksw_same) ?kp ?km))
  k_with "exec For Name Name cons nil" => (k_here; (rename Fr _ _ _ _ => lF'); k_dflt (with_unfolding_all refine' For_invVF lF' (by exact rfl) (by exact rfl) ?_; k_whole))
  k_with "exec For Name Call cons nil" => (k_here; (rename Fr _ _ _ _ => lF'); k_dflt (with_unfolding_all refine' For_invVF lF' (by exact rfl) (by exact rfl) ?_; k_whole))
  k_with "nz tabitem" => (k_here; (with_reducible show wpAny _ _ (subscriptTail _ _ (Value.ref _) (Value.str _ _)) _ _ _); (try kt_k); k_dflt (refine' item_strTab (by kt_ktab) (by with_reducible assumption) ?_; k_whole); intro _ hv'; (refine' Exists.elim (PyProof.V.Flat.str_inv hv') ?_); intro tv ev; subst ev; clear hv')
  k_with "compareOp In str ref" => (k_here; (try kt_k); k_dflt (refine' Nz.nz_inTab (by with_reducible assumption) (by kt_ktab) ?_; k_whole); intro _; (try dsimp only [Option.isSome]))
  k_with "subscriptTail" => walk_at "nz tabitem"
  k_with "getItem ref str" => (k_here; k_dflt (refine' getItem_tab PyProof.V.same_str (strKind_is _ _ _ _) (by k_tabat) (by with_reducible assumption) ?_; k_whole); intro _ hv'; (refine' Exists.elim (PyProof.V.Flat.str_inv hv') ?_); intro tv ev; subst ev; clear hv')
  k_with "nz slicelast" => (k_here; (with_reducible show wpAny _ _ (subscriptTail _ (Expr.Slice (some _) none none _) (Value.str _ _) (Value.ref _)) _ _ _); (with_reducible rename Fr _ _ _ _ => F'); (with_reducible rename News _ _ _ _ => N'); ((with_reducible refine' Nz.nz_slice_last (s := ⟨_, _, _, _, _⟩) F' N' (by k_dflt (exact rfl)) (by decide) (by k_dflt (walk_at "nz sz")) ?_ (by k_dflt (with_unfolding_all rfl)) (by k_dflt (intro _; with_unfolding_all rfl))); k_whole; intro _ _ _ _ _))
  k_with "subscriptTail BinOp" => walk_at "nz slicelast"
  k_with "InvEndN" => refine Nz.Hold.out ?_
  k_with "InvEndG" => refine Nz.Hold.out ?_
  k_with "pyIter str" => (k_here; refine Nz.Hold.out ?_)
  k_with "pyIter ref" => (k_here; refine Nz.Hold.out ?_)
  k_with "KswEnd" => refine Nz.Hold.out ?_
  k_with "call ref" => (k_here; (with_reducible show wpAny _ (Around.deeper callerA _) _ _ _ _); refine Nz.Hold.out ?_)
  k_with "call ref" => (k_here; (guard_target =~ wpAny _ _ (call (Value.ref 62) _) _ _ _); (k_dflt (refine' Nz.Ct.use (Nz.ct_closer _ _ _ _ _ _ _) (by k_asm) (by k_asm) (by k_asm) (by k_asm) (by k_asm) (by first | exact rfl | assumption) (by ktr_room) (by ktr_units) ?_)); (unfold Nz.RS; intro _ _ _ _ _; (try dsimp only)))
  k_with "call ref" => (k_here; (guard_target =~ wpAny _ _ (call (Value.ref 76) _) _ _ _); (k_dflt (refine' Nz.Ct.use (Nz.ct_delimited _ _ _ _ _ _ _ _ _ _ _ (by (walk_at "nz sz")) (by assumption) (by assumption)) (by k_asm) (by k_asm) (by k_asm) (by k_asm) (by k_asm) (by first | exact rfl | assumption) (by ktr_room) (by ktr_units) ?_)); (unfold Nz.RDel; intro _ _ _ _ _ _ _ _ l1; (try k_lt l1); (try dsimp only)))
  k_with "call ref" => (k_here; (guard_target =~ wpAny _ _ (call (Value.ref 83) _) _ _ _); (k_dflt (refine' Nz.Ct.use (Nz.ct_unguarded _ _ _ _ _ _ _ _ _ _ (by (walk_at "nz sz"))) (by k_asm) (by k_asm) (by k_asm) (by k_asm) (by k_asm) (by first | exact rfl | assumption) (by ktr_room) (by ktr_units) ?_)); (unfold Nz.RS; intro _ _ _ _ _; (try dsimp only)))
  k_with "call ref" => (k_here; (guard_target =~ wpAny _ _ (call (Value.ref 97) _) _ _ _); (k_dflt (refine' Nz.Ct.use (Nz.ct_digits _ _ _ _ _ _ _ _ _ _ _ _ _ _ (by (walk_at "nz nat")) (by (walk_at "nz nat")) (by (walk_at "nz nat")) (by (walk_at "nz sz")) (by assumption) (by assumption) (by omega) (by omega) (by assumption) (by omega) (by omega)) (by k_asm) (by k_asm) (by k_asm) (by k_asm) (by k_asm) (by first | exact rfl | assumption) (by ktr_room) (by ktr_units) ?_)); (unfold Nz.RTup2; intro _ _ _ _ _ _ _ _ l1; (try k_lt l1); (try dsimp only)))
  k_with "call ref" => (k_here; (guard_target =~ wpAny _ _ (call (Value.ref 104) _) _ _ _); (k_dflt (refine' Nz.Ct.use (Nz.ct_coded _ _ _ _ _ _ _ (by omega)) (by k_asm) (by k_asm) (by k_asm) (by k_asm) (by k_asm) (by first | exact rfl | assumption) (by ktr_room) (by ktr_units) ?_)); (unfold Nz.RS; intro _ _ _ _ _; (try dsimp only)))
  k_with "call ref" => (k_here; (guard_target =~ wpAny _ _ (call (Value.ref 69) _) _ _ _); (k_dflt (refine' Nz.Ct.use (Nz.ct_line _ _ _ _ _ _ _ _ _ (by (walk_at "nz sz"))) (by k_asm) (by k_asm) (by k_asm) (by k_asm) (by k_asm) (by first | exact rfl | assumption) (by ktr_room) (by ktr_units) ?_)); (unfold Nz.RI; intro _ _ _ _ _; (try dsimp only)))
  k_with "call ref" => (k_here; (guard_target =~ wpAny _ _ (call (Value.ref 111) _) _ _ _); (k_dflt (refine' Nz.Ct.use (Nz.ct_braced _ _ _ _ _ _ _ _ _ _ _ _ _ (by (walk_at "nz nat")) (by (walk_at "nz nat")) (by (walk_at "nz sz")) (by assumption) (by assumption) (by assumption) (by assumption) (by assumption) (by decide) (by decide) (by assumption)) (by k_asm) (by k_asm) (by k_asm) (by k_asm) (by k_asm) (by first | exact rfl | assumption) (by ktr_room) (by ktr_units) ?_)); (unfold Nz.RTup2; intro _ _ _ _ _ _ _ _ l1; (try k_lt l1); (try dsimp only)))
  k_with "call ref" => (k_here; (guard_target =~ wpAny _ _ (call (Value.ref 118) _) _ _ _); (k_dflt (refine' Nz.Ct.use (Nz.ct_escok _ _ _ (by (walk_at "nz nat")) (by assumption)) (by k_asm) (by k_asm) (by k_asm) (by k_asm) (by k_asm) (by first | exact rfl | assumption) (by ktr_room) (by ktr_units) ?_)); (unfold Nz.RTup2; intro _ _ _ _ _ _ _ _ l1; (try k_lt l1); (try dsimp only)))
  k_with "call ref" => (k_here; (guard_target =~ wpAny _ _ (call (Value.ref 279) _) _ _ _); (k_dflt (refine' Nz.Ct.use (Nz.ct_take_esc _ _ _ _ _ _ _ _ _ _ _ _ _ _ (by (walk_at "nz nat")) (by with_reducible assumption) (by with_reducible assumption) (by with_reducible assumption) (by with_reducible assumption) (by with_reducible assumption)) (by k_asm) (by k_asm) (by k_asm) (by k_asm) (by k_asm) (by first | exact rfl | assumption) (by ktr_room) (by ktr_units) ?_)); (unfold Nz.RTake; intro _ _ _ _ hStk _ _; (try dsimp only)))
  k_with "call ref" => (k_here; (guard_target =~ wpAny _ _ (call (Value.ref 279) _) _ _ _); (k_dflt (refine' Nz.Ct.use (Nz.ct_take_plain _ _ _ _ _ _ _ _ _ _ _ _ _ (by (walk_at "nz nat")) (by with_reducible assumption) (by with_reducible assumption) (by with_reducible assumption) (by with_reducible assumption) (by with_reducible assumption) (by with_reducible assumption) (by with_reducible assumption)) (by k_asm) (by k_asm) (by k_asm) (by k_asm) (by k_asm) (by first | exact rfl | assumption) (by ktr_room) (by ktr_units) ?_)); (unfold Nz.RTake; intro _ _ _ _ hStk _ _; (try dsimp only)))
  k_with "call ref" => (k_here; (guard_target =~ wpAny _ _ (call (Value.ref 286) _) _ _ _); (k_dflt (refine' Nz.Ct.use (Nz.ct_parts _ _ _ _ _ _ _ _ (by (walk_at "nz sz")) (by assumption)) (by k_asm) (by k_asm) (by k_asm) (by k_asm) (by k_asm) (by first | exact rfl | assumption) (by ktr_room) (by ktr_units) ?_)); (unfold Nz.RParts; refine' ⟨fun hE _ _ _ _ _ _ l1 => ?_, fun hE _ _ _ _ _ _ _ _ _ _ l1 l2 => ?_⟩ <;> ((try k_lt l1); (try k_lt2 l2); (try dsimp only))))
  k_with "call ref" => (k_here; (guard_target =~ wpAny _ _ (call (Value.ref 90) _) _ _ _); (k_dflt (refine' Nz.Ct.use (Nz.ct_readq _ _ _ _ _ _ _ _ _ (by (walk_at "nz sz"))) (by k_asm) (by k_asm) (by k_asm) (by k_asm) (by k_asm) (by first | exact rfl | assumption) (by ktr_room) (by ktr_units) ?_)); (unfold Nz.RS; intro _ _ _ _ _; (try dsimp only)))
  k_with "call ref" => (k_here; (guard_target =~ wpAny _ _ (call (Value.ref 308) _) _ _ _); (k_dflt (refine' Nz.Ct.use2 (by k_asm) (Nz.ct_take _ _ _ _ _ _ _ _ _ _ _ _ _ _ _ (by (walk_at "nz nat")) (by with_reducible assumption) (by (first | with_reducible assumption | omega)) (by (first | omega | exact Nat.zero_le _ | decide)) (by (first | decide | omega)) (by (first | decide | omega)) (by (first | with_reducible assumption | omega)) (by (first | with_reducible assumption | walk_at "nz ne")) (by (first | with_reducible assumption | exact rfl))) (by k_asm) (by k_asm) (by k_asm) (by k_asm) (by first | exact rfl | assumption) (by ktr_room) (by ktr_units) ?_)); (unfold Nz.RTape; intro _ _ _ _ _ _ _; (try dsimp only)))
  k_with "call ref" => (k_here; (guard_target =~ wpAny _ _ (call (Value.ref 300) _) _ _ _); (k_dflt (refine' Nz.Ct.use (Nz.ct_ends _ _ _ _ _) (by k_asm) (by k_asm) (by k_asm) (by k_asm) (by k_asm) (by first | exact rfl | assumption) (by ktr_room) (by ktr_units) ?_)); (unfold Nz.RDict; intro _ _ _ _ _ _ _ l1 _ _ _; (try k_lt l1); (try dsimp only)))
  k_with "call ref" => (k_here; (guard_target =~ wpAny _ _ (call (Value.ref 315) _) _ _ _); (k_dflt (refine' Nz.Ct.use (Nz.ct_based _ _ _ _ _ _ _ _ _ (by (walk_at "nz nat")) (by (first | with_reducible assumption | omega)) (by (first | exact .inl rfl | exact .inr rfl))) (by k_asm) (by k_asm) (by k_asm) (by k_asm) (by k_asm) (by first | exact rfl | assumption) (by ktr_room) (by ktr_units) ?_)); (unfold Nz.RS; intro _ _ _ _ _; (try dsimp only)))
  k_with "call ref" => (k_here; (guard_target =~ wpAny _ _ (call (Value.ref 322) _) _ _ _); (k_dflt (refine' Nz.Ct.use (Nz.ct_inq _ _ _ _ _ _ _ _ _ _ (by (first | with_reducible assumption | omega)) (by with_reducible assumption) (by exact rfl)) (by k_asm) (by k_asm) (by k_asm) (by k_asm) (by k_asm) (by first | exact rfl | assumption) (by ktr_room) (by ktr_units) ?_)); (unfold Nz.RS; intro _ _ _ _ _; (try dsimp only)))
  k_with "call ref" => (k_here; (guard_target =~ wpAny _ _ (call (Value.ref 28) _) _ _ _); (k_dflt (refine' Nz.Ct.use (Nz.ct_init28 _ _ _ _ ?_ ?_ ?_ ?_ ?_ (by with_reducible assumption)) (by k_asm) (by k_asm) (by k_asm) (by k_asm) (by k_asm) (by first | exact rfl | assumption) (by ktr_room) (by ktr_units) ?_)); intro _ _ _ _ _ _ _ _ _)
  k_with "call ref" => (k_here; (guard_target =~ wpAny _ _ (call (Value.ref 48) _) _ _ _); (k_dflt (refine' Nz.Ct.use (Nz.ct_init48 _ _ _ _ ?_ ?_ ?_ ?_ ?_ ?_ ?_ (by with_reducible assumption)) (by k_asm) (by k_asm) (by k_asm) (by k_asm) (by k_asm) (by first | exact rfl | assumption) (by ktr_room) (by ktr_units) ?_)); intro _ _ _ _ _ _ _ _ _)
  trivial
namespace Nz
def joinN (sep : List Nat) : List (List Nat) → List Nat
  | [] => []
  | [x] => x
  | x :: y :: r => x ++ sep ++ joinN sep (y :: r)
theorem join_S (sep : List Nat) : ∀ rs : List (List Nat), Txt.join (S sep) (rs.map S) = S (joinN sep rs) := by
  intro rs
  show PySem.Builtin.Str.glued _ _ = _
  rw [PySem.StrLaws.glued_eq_join]
  induction rs with
  | nil => rfl
  | cons x r ih =>
    cases r with
    | nil => rfl
    | cons y r =>
      show S x ++ S sep ++ Str.join (S sep) (S y :: r.map S) = _
      have := ih
      simp only [List.map_cons] at this
      rw [this, S_append, S_append]
      rfl
theorem joinN_ones : ∀ l : List Nat, joinN [] (l.map fun c => [c]) = l := by
  intro l
  induction l with
  | nil => rfl
  | cons x r ih =>
    cases r with
    | nil => rfl
    | cons y r =>
      show [x] ++ [] ++ joinN [] ((y :: r).map fun c => [c]) = _
      rw [ih]
      rfl
section
variable {prog : Program} {w : World} {A : Around} {E : Value → Shared → Prop} {s : Shared} {t u : Tok} {Q : Value → Shared → Prop}
theorem nz_join {D : Addr} {vs : List Value} {sep : List Nat} {rs : List (List Nat)} (hl : s.heap.IsList D vs.toArray) (hi : StrsAre vs (rs.map S)) (hsep : sep.length ≤ 16) (hw : ((rs.map S).map (·.length)).sum + rs.length ≤ 1048576)
    (h : ∀ t' k, Q (.str (S (joinN sep rs)) t') { s with toks := k }) : wpAny (model prog w) A (call (.builtin "str.join") [.str (S sep) t, .ref D]) Q E s :=
  join_listW hl (by simpa using hi) (by rw [S_length]; exact hsep) (by rw [List.length_map]; exact hw) fun t' k => by rw [join_S]; exact h t' k
theorem sum_ones (l : List Nat) : (((l.map fun c => [c]).map S).map (·.length)).sum = l.length := by
  induction l with
  | nil => rfl
  | cons x r ih => simp only [List.map_cons, List.sum_cons, S_length, List.length_cons, ih, List.length_nil]; omega
theorem nz_join1 {D : Addr} {vs : List Value} {l : List Nat} (hl : s.heap.IsList D vs.toArray) (hi : StrsAre vs (l.map fun c => S [c])) (hw : l.length ≤ 1000)
    (h : ∀ t' k, Q (.str (S l) t') { s with toks := k }) : wpAny (model prog w) A (call (.builtin "str.join") [.str (S []) t, .ref D]) Q E s := by
  refine nz_join (rs := l.map fun c => [c]) hl (by rw [List.map_map]; exact hi) (by decide) ?_ ?_
  · rw [sum_ones, List.length_map]; omega
  · intro t' k; rw [joinN_ones]; exact h t' k
theorem nz_mul {c n : Nat} {i : Int} (hi : i = n) (hn : n ≤ 1000) (h : ∀ t' k, Q (.str (S (List.replicate n c)) t') { s with toks := k }) : wpAny (model prog w) A (binaryOp .Mult (.str (S [c]) t) (.int i u)) Q E s := by
  subst hi
  have hL : (S [c]).length = 1 := rfl
  refine SB.mul (mulOk_of 16 1048576 (by rw [hL]; decide) (by omega) (by omega) (by decide) (by decide)) fun t' k => ?_
  have e : Txt.mul (S [c]) (n : Int) = S (List.replicate n c) := by
    have q := mul_one_list c (n : Int)
    rw [Int.toNat_natCast] at q
    show Txt.mul ⟨#[c]⟩ (n : Int) = _
    rw [← q]
  rw [e]
  exact h t' k
end
end Nz

namespace Nz
open PyProof.Rows in
theorem nz_comp {prog : Program} {w : World} {A : Around} {h₀ : Heap} {L : Addr} {m : PySem.Str → Option Value} {env : Env} {elt : Expr} {x : PySem.Str} {scope : Scope} {cl : List (PySem.Str × Addr)} {s : Shared} {S : List (Addr × Obj) → Prop} {P : Nat → Value → Prop} {Fin : List Value → List (Addr × Obj) → Prop}
    {σ : Type} (Led : σ → List (Addr × Obj)) (J : Nat → σ → List Value → Prop) (n : Nat)
    (turn : ∀ i c ys v I oI C oC D m₂ h tk (E' : Value → Shared → Prop), i < n → J i c ys → P i v → LCg.NsObj oC m₂ → m₂ x = some v → Fr h₀ L h m → News h₀ L h ((I, oI) :: (C, oC) :: (D, LCg.lst ys) :: Led c) → LCg.Off3 I C D (Led c) → ((@Ne Nat I C) ∧ (@Ne Nat I D) ∧ (@Ne Nat C D)) →
      wpAny (model prog w) A (eval elt (compEnvC scope cl C env)) (LCg.CompEnd h₀ L m { s with heap := h, toks := tk } I oI C oC D (LCg.lst ys) S (fun y news' => ∃ c', news' = Led c' ∧ J (i + 1) c' (ys ++ [y]))) E' { s with heap := h, toks := tk })
    (fin : ∀ c ys, J n c ys → Fin ys (Led c)) : ∀ c, J 0 c [] → LCg.CompRest prog w A h₀ L m env elt x scope cl s S P Fin n 0 [] (Led c) := by
  have key : ∀ (j i : Nat) (ys : List Value) (c : σ), i + j = n → J i c ys → LCg.CompRest prog w A h₀ L m env elt x scope cl s S P Fin j i ys (Led c) := by
    intro j
    induction j with
    | zero =>
      intro i ys c hi hj
      obtain rfl : i = n := by omega
      exact LCg.CompRest.zero (fin c ys hj)
    | succ j ih =>
      intro i ys c hi hj
      refine LCg.CompRest.succ ?_
      intro v I oI C oC D m₂ h tk E' hv hC hx F N off ne
      refine wpAny_mono (turn i c ys v I oI C oC D m₂ h tk E' (by omega) hj hv hC hx F N off ne) (fun y s₂ hq => ?_) fun _ _ e => e
      obtain ⟨h', tk', nw, e, F', N', off', hS, c', rfl, hj'⟩ := hq
      exact ⟨h', tk', Led c', e, F', N', off', hS, ih (i + 1) _ c' (by omega) hj'⟩
  exact fun c hc => key n 0 [] c (by omega) hc
abbrev sgL : List Nat := [97,90,95,32,40,41,123,125,91,93,60,62,39,34,47,124,92,92,36,64,10,9,0,27,127,233,257,9786,48,57,126,110]
/-- the law's text -/
def textN (ns : List Int) (n : Nat) : List Nat := (List.range n).map fun j => sgL.getD (drawN ns (1 + j) 32) 0
theorem signs_lit : PySem.Str.ofString "aZ_ (){}[]<>'\"/|\\\\$@\n\t\x00\x1b\x7féā☺09~n" = S sgL := by decide +kernel
theorem signs_item {r : Nat} (h : r < 32) : Txt.item (PySem.Str.ofString "aZ_ (){}[]<>'\"/|\\\\$@\n\t\x00\x1b\x7féā☺09~n") (r : Int) = S [sgL.getD r 0] := by
  rw [signs_lit]
  unfold Txt.item Txt.charAt
  rw [StrLaws.at_nonneg (n := sgL.getD r 0) (by omega) (by show sgL.toArray[((r : Nat) : Int).toNat]? = _; rw [Int.toNat_natCast]; simp [List.getD, List.getElem?_eq_getElem (show r < sgL.length from h)])]
  rfl
abbrev tapeL (tp sl cell : Addr) (o : Obj) (vs : List Value) (n2 k : Nat) (t : Tok) (n1 : Nat) : List (Addr × Obj) := [(tp, listOf #[.ref sl, .int (k : Nat) t] n1), (sl, listOf vs.toArray n2), (cell, o)]
theorem nz_comp_tape {prog : Program} {w : World} {A : Around} {h₀ : Heap} {L : Addr} {m : PySem.Str → Option Value} {env : Env} {elt : Expr} {x : PySem.Str} {scope : Scope} {cl : List (PySem.Str × Addr)} {s : Shared} {S' : List (Addr × Obj) → Prop} {P : Nat → Value → Prop} {Fin : List Value → List (Addr × Obj) → Prop}
    {tp sl cell : Addr} {o : Obj} {vs : List Value} {n2 k0 n1 : Nat} {t0 : Tok} {hh : Heap} (_N : News h₀ L hh (tapeL tp sl cell o vs n2 k0 t0 n1)) (scr : List Int) (hk : k0 = 1) (n : Nat)
    (turn : ∀ i k t n1 ys v I oI C oC D m₂ h tk (E' : Value → Shared → Prop), i < n → k = 1 + i → PyProof.Rows.LCg.NsObj oC m₂ → m₂ x = some v → Fr h₀ L h m → News h₀ L h ((I, oI) :: (C, oC) :: (D, PyProof.Rows.LCg.lst ys) :: tapeL tp sl cell o vs n2 k t n1) → PyProof.Rows.LCg.Off3 I C D (tapeL tp sl cell o vs n2 k t n1) →
      wpAny (model prog w) A (eval elt (compEnvC scope cl C env)) (PyProof.Rows.LCg.CompEnd h₀ L m { s with heap := h, toks := tk } I oI C oC D (PyProof.Rows.LCg.lst ys) S' (fun y news' => ∃ t' n1', news' = tapeL tp sl cell o vs n2 (k + 1) t' n1' ∧ ∃ u, y = .str (S [sgL.getD (drawN scr k 32) 0]) u)) E' { s with heap := h, toks := tk })
    (fin : ∀ t n1 ys, StrsAre ys ((List.range n).map fun j => S [sgL.getD (drawN scr (1 + j) 32) 0]) → Fin ys (tapeL tp sl cell o vs n2 (1 + n) t n1)) : PyProof.Rows.LCg.CompRest prog w A h₀ L m env elt x scope cl s S' P Fin n 0 [] (tapeL tp sl cell o vs n2 k0 t0 n1) := by
  refine nz_comp (σ := Nat × Tok × Nat) (fun c => tapeL tp sl cell o vs n2 c.1 c.2.1 c.2.2) (fun i c ys => c.1 = 1 + i ∧ StrsAre ys ((List.range i).map fun j => S [sgL.getD (drawN scr (1 + j) 32) 0])) n ?_ ?_ (k0, t0, n1) ⟨hk, .nil⟩
  · rintro i ⟨k, t, n1⟩ ys v I oI C oC D m₂ h tk E' hi ⟨hk, hy⟩ _ hC hx F N off _
    dsimp only at hk N off
    refine wpAny_mono (turn i k t n1 ys v I oI C oC D m₂ h tk E' hi hk hC hx F N off) (fun y s₂ hq => ?_) fun _ _ e => e
    obtain ⟨h', tk', nw, e, F', N', off', hS, t', n1', rfl, u, rfl⟩ := hq
    refine ⟨h', tk', _, e, F', N', off', hS, (k + 1, t', n1'), rfl, by show k + 1 = _; omega, ?_⟩
    rw [List.range_succ, List.map_append]
    subst hk
    exact kct_snoc hy
  · rintro ⟨k, t, n1⟩ ys ⟨hk, hy⟩
    dsimp only at hk
    subst hk
    exact fin t n1 ys hy
theorem comp_news {h₀ h : Heap} {L tp sl cell I C D : Addr} {o oI oC oD : Obj} {vs : List Value} {n2 k n1 : Nat} {t : Tok} (N : News h₀ L h ((I, oI) :: (C, oC) :: (D, oD) :: tapeL tp sl cell o vs n2 k t n1)) :
    News h₀ L h ((tp, listOf #[.ref sl, .int (k : Nat) t] n1) :: (sl, listOf vs.toArray n2) :: [(I, oI), (C, oC), (D, oD), (cell, o)]) := fun q hq => N q (by
  simp only [List.mem_cons, List.not_mem_nil, or_false] at hq ⊢
  rcases hq with h | h | h | h | h | h <;> simp [h])
theorem comp_newsB {h₀ h : Heap} {L tp sl cell I C D : Addr} {o oI oC oD : Obj} {vs : List Value} {n2 k n1 : Nat} {t : Tok} (N : News h₀ L h
    ((tp, listOf #[.ref sl, .int (k : Nat) t] n1) :: (sl, listOf vs.toArray n2) :: [(I, oI), (C, oC), (D, oD), (cell, o)])) : News h₀ L h ((I, oI) :: (C, oC) :: (D, oD) :: tapeL tp sl cell o vs n2 k t n1) := fun q hq => N q (by
  simp only [List.mem_cons, List.not_mem_nil, or_false] at hq ⊢
  rcases hq with h | h | h | h | h | h <;> simp [h])
theorem comp_ne {tp sl cell I C D : Addr} {o oI oC oD : Obj} {vs : List Value} {n2 k n1 : Nat} {t : Tok} (off : PyProof.Rows.LCg.Off3 I C D (tapeL tp sl cell o vs n2 k t n1)) (h : (cell : Nat) < tp) : ∀ q ∈ [(I, oI), (C, oC), (D, oD), (cell, o)], q.1 ≠ tp := by
  obtain ⟨⟨h1, h2, h3⟩, _⟩ := off
  intro q hq
  simp only [List.mem_cons, List.not_mem_nil, or_false] at hq
  rcases hq with rfl | rfl | rfl | rfl
  · exact Ne.symm h1
  · exact Ne.symm h2
  · exact Ne.symm h3
  · exact Nat.ne_of_lt h
theorem comp_off {tp sl cell I C D : Addr} {o : Obj} {vs : List Value} {n2 k n1 k' n1' : Nat} {t t' : Tok} (off : PyProof.Rows.LCg.Off3 I C D (tapeL tp sl cell o vs n2 k t n1)) : PyProof.Rows.LCg.Off3 I C D (tapeL tp sl cell o vs n2 k' t' n1') := off
end Nz
theorem Nz.reg_p48_comp_0 : True := by
  k_with "CompSrc" => (k_here; refine Nz.Hold.out ?_)
  trivial
namespace Nz
/-- a piece of raw text that `delimited` passes over whole -/
def PassD (o c : Nat) (raw : List Nat) : Prop := ∀ (d : Nat) (rest : List Nat) (e : Nat), 1 ≤ d → delimR o c (raw ++ rest) d e = delimR o c rest d (e + raw.length)
theorem pass_nil (o c : Nat) : PassD o c [] := fun _ _ _ _ => rfl
theorem pass_append {o c : Nat} {a b : List Nat} (ha : PassD o c a) (hb : PassD o c b) : PassD o c (a ++ b) := by
  intro d rest e hd
  rw [List.append_assoc, ha d _ e hd, hb d _ _ hd, List.length_append, Nat.add_assoc]
theorem pass_one {o c x : Nat} (h1 : x ≠ 92) (h2 : x ≠ c) (h3 : x ≠ o) : PassD o c [x] := by
  intro d rest e hd
  show delimR o c (x :: rest) d e = _
  rw [delimR_cons, if_neg h1, if_neg h2, if_neg h3]
  rfl
theorem pass_esc {o c y : Nat} : PassD o c [92, y] := by
  intro d rest e hd
  show delimR o c (92 :: y :: rest) d e = _
  rw [delimR_cons, if_pos rfl]
  rfl
theorem pass_all {o c : Nat} : ∀ {l : List Nat}, (∀ x ∈ l, x ≠ 92 ∧ x ≠ c ∧ x ≠ o) → PassD o c l
  | [], _ => pass_nil o c
  | x :: r, h => pass_append (a := [x]) (pass_one (h x (.head _)).1 (h x (.head _)).2.1 (h x (.head _)).2.2) (pass_all fun y hy => h y (.tail _ hy))
/-- a bracket within -/
theorem pass_in {o c : Nat} {l : List Nat} (ho : o ≠ 92) (hc : c ≠ 92) (hoc : o ≠ c) (h : PassD o c l) : PassD o c ([o] ++ l ++ [c]) := by
  intro d rest e hd
  rw [List.append_assoc, List.append_assoc]
  show delimR o c (o :: (l ++ (c :: rest))) d e = _
  rw [delimR_cons, if_neg ho, if_neg hoc, if_pos rfl, h (d + 1) _ _ (by omega), delimR_cons, if_neg hc, if_pos rfl, if_neg (by omega), Nat.add_sub_cancel]
  congr 1
  simp only [List.length_append, List.length_cons, List.length_nil]
  omega
theorem ops_facts : ∀ o ∈ opsL, o ≠ 92 ∧ closerN o ≠ 92 ∧ (o = 123 → closerN o = 125) ∧ (o ≠ 123 → closerN o ≠ 125 ∧ closerN o ≠ 123 ∧ o ≠ 125) ∧ (∀ x ∈ hexS, x ≠ 92 ∧ x ≠ closerN o ∧ x ≠ o) := by decide
theorem pass_inq {o : Nat} (ho : o ∈ opsL) : ∀ l : List Nat, PassD o (closerN o) (inqR o (closerN o) l) := by
  intro l
  induction l with
  | nil => exact pass_nil _ _
  | cons x r ih =>
    have e : inqR o (closerN o) (x :: r) = (if x = o ∨ x = closerN o ∨ x = 92 then [92, x] else [x]) ++ inqR o (closerN o) r := by simp [inqR]
    rw [e]
    refine pass_append ?_ ih
    split
    · exact pass_esc
    · rename_i h
      exact pass_one (fun q => h (.inr (.inr q))) (fun q => h (.inr (.inl q))) (fun q => h (.inl q))
theorem basedR_mem (b : Nat) (hb1 : 1 ≤ b) (hb : b ≤ 16) : ∀ (f n : Nat) (acc : List Nat), (∀ x ∈ acc, x ∈ hexS) → ∀ x ∈ basedR b f n acc, x ∈ hexS := by
  intro f
  induction f with
  | zero => intro n acc h; simpa [basedR] using h
  | succ f ih =>
    intro n acc h
    rw [basedR]
    split
    · exact h
    · refine ih _ _ fun x hx => ?_
      rcases List.mem_cons.mp hx with rfl | hx
      · have hl : n % b < hexS.length := Nat.lt_of_lt_of_le (Nat.mod_lt _ (by omega)) hb
        rw [List.getD_eq_getElem?_getD, List.getElem?_eq_getElem hl]
        exact List.getElem_mem hl
      · exact h x hx
theorem basedR_ge (b : Nat) : ∀ (f n : Nat) (acc : List Nat), acc.length ≤ (basedR b f n acc).length := by
  intro f
  induction f with
  | zero => intro n acc; simp [basedR]
  | succ f ih =>
    intro n acc
    rw [basedR]
    split
    · exact Nat.le_refl _
    · have := ih (n / b) (hexS.getD (n % b) 0 :: acc)
      simp only [List.length_cons] at this
      omega
theorem basedR_pos (b f n : Nat) : 1 ≤ (basedR b (f + 1) n []).length := by
  rw [basedR_go (.inr rfl)]
  exact basedR_ge b f (n / b) [hexS.getD (n % b) 0]
theorem pass_qq1 {o : Nat} (ho : o ∈ opsL) (way c : Nat) : PassD o (closerN o) (qq1 o (closerN o) way c) := by
  obtain ⟨f1, f2, f3, f4, f5⟩ := ops_facts o ho
  have hex : ∀ (l : List Nat), (∀ x ∈ l, x ∈ hexS) → PassD o (closerN o) l := fun l h => pass_all fun x hx => f5 x (h x hx)
  have brace : ∀ (y : Nat) (l : List Nat), (∀ x ∈ l, x ∈ hexS) → PassD o (closerN o) ([92, y, 123] ++ l ++ [125]) := by
    intro y l h
    rw [show [92, y, 123] ++ l ++ [125] = [92, y] ++ ([123] ++ l ++ [125]) by simp]
    refine pass_append pass_esc ?_
    by_cases h123 : o = 123
    · have h125 := f3 h123
      have := pass_in (o := o) (c := closerN o) (l := l) f1 f2 (by rw [h125, h123]; decide) (hex l h)
      rw [h125, h123] at this ⊢
      exact this
    · obtain ⟨g1, g2, g3⟩ := f4 h123
      exact pass_append (pass_append (pass_one (by decide) (Ne.symm g2) (Ne.symm h123)) (hex l h)) (pass_one (by decide) (Ne.symm g1) (Ne.symm g3))
  have escs : ∀ (y : Nat) (l : List Nat), (∀ x ∈ l, x ∈ hexS) → PassD o (closerN o) ([92, y] ++ l) := fun y l h => pass_append pass_esc (hex l h)
  have m16 := basedR_mem 16 (by decide) (by decide) 20 c [] (by simp)
  have m8 := basedR_mem 8 (by decide) (by decide) 20 c [] (by simp)
  have z48 : 48 ∈ hexS := by decide
  unfold qq1
  split
  · exact brace 120 _ m16
  split
  · exact brace 111 _ m8
  split
  · have hm : ∀ x ∈ ([48, 48] ++ basedR 8 20 c []).drop (([48, 48] ++ basedR 8 20 c []).length - 3), x ∈ hexS := fun x hx => by
      have := List.mem_of_mem_drop hx
      simp only [List.mem_append, List.mem_cons, List.not_mem_nil, or_false] at this
      rcases this with (h | h) | h
      · rw [h]; exact z48
      · rw [h]; exact z48
      · exact m8 x h
    have hl3 : (([48, 48] ++ basedR 8 20 c []).drop (([48, 48] ++ basedR 8 20 c []).length - 3)).length = 3 := by
      have : 1 ≤ (basedR 8 20 c []).length := basedR_pos 8 19 c
      rw [List.length_drop, List.length_append]
      simp only [List.length_cons, List.length_nil]
      omega
    generalize ([48, 48] ++ basedR 8 20 c []).drop (([48, 48] ++ basedR 8 20 c []).length - 3) = ds at hm hl3
    cases ds with
    | nil => cases hl3
    | cons y r => exact escs y r fun x hx => hm x (.tail _ hx)
  split
  · refine escs 120 _ fun x hx => ?_
    have := List.mem_of_mem_drop hx
    simp only [List.mem_append, List.mem_cons, List.not_mem_nil, or_false] at this
    rcases this with h | h
    · rw [h]; exact z48
    · exact m16 x h
  cases hn : namedN c with
  | some e =>
    dsimp only
    unfold namedN at hn
    (repeat' split at hn) <;> first | (cases hn; exact pass_esc) | cases hn
  | none =>
    dsimp only
    split
    · exact pass_esc
    · rename_i hh
      have h92 : c ≠ 92 := by rintro rfl; cases hn
      exact pass_one h92 (fun q => hh (.inr q)) (fun q => hh (.inl q))
theorem pass_inqq {o : Nat} (ho : o ∈ opsL) (ns : List Int) : ∀ (l : List Nat) (k : Nat), PassD o (closerN o) (inqqR ns o (closerN o) k l) := by
  intro l
  induction l with
  | nil => intro k; exact pass_nil _ _
  | cons x r ih => intro k; exact pass_append (pass_qq1 ho _ x) (ih (k + 1))
theorem pass_end {o : Nat} (ho : o ∈ opsL) {raw : List Nat} (h : PassD o (closerN o) raw) (e : Nat) : delimR o (closerN o) (raw ++ [closerN o, o]) 1 e = some (e + raw.length) := by
  rw [h 1 _ e (by omega), delimR_cons, if_neg (ops_facts o ho).2.1, if_pos rfl, if_pos rfl]
theorem pass_cut {o : Nat} {raw : List Nat} (h : PassD o (closerN o) raw) (e : Nat) : delimR o (closerN o) (raw ++ [92, closerN o]) 1 e = none := by
  rw [h 1 _ e (by omega), delimR_cons, if_pos rfl]
  exact delimR_nil ..
theorem ung_inq' {o : Nat} : ∀ tx : List Nat, ungR o (closerN o) true (inqR o (closerN o) tx) = tx := by
  intro tx
  induction tx with
  | nil => simp [inqR, ungR]
  | cons x r ih =>
    have e : inqR o (closerN o) (x :: r) = (if x = o ∨ x = closerN o ∨ x = 92 then [92, x] else [x]) ++ inqR o (closerN o) r := by simp [inqR]
    rw [e]
    split
    · rename_i h
      show ungR o (closerN o) true (92 :: x :: inqR o (closerN o) r) = _
      rw [ungR, if_pos rfl, if_pos (by rcases h with h | h | h <;> simp [h]), ih]
    · rename_i h
      show ungR o (closerN o) true (x :: inqR o (closerN o) r) = _
      rw [ungR_cons _ _ _ (fun q => h (.inr (.inr q))), ih]
end Nz

namespace Nz
/-- `unguarded` (not plain) turns the piece `a` into `b` -/
def UngP (o c : Nat) (a b : List Nat) : Prop := ∀ rest, ungR o c false (a ++ rest) = b ++ ungR o c false rest
theorem ungp_nil (o c : Nat) : UngP o c [] [] := fun _ => rfl
theorem ungp_append {o c : Nat} {a b a' b' : List Nat} (h : UngP o c a a') (h' : UngP o c b b') : UngP o c (a ++ b) (a' ++ b') := by
  intro rest
  rw [List.append_assoc, h, h', List.append_assoc]
theorem ungp_one {o c x : Nat} (h : x ≠ 92) : UngP o c [x] [x] := fun rest => ungR_cons o c false h rest
theorem ungp_esc {o c y : Nat} (h1 : y ≠ o) (h2 : y ≠ c) : UngP o c [92, y] [92, y] := by
  intro rest
  show ungR o c false (92 :: y :: rest) = _
  rw [ungR, if_pos rfl, if_neg (by simp [h1, h2])]
  rfl
theorem ungp_del {o c y : Nat} (h : y = o ∨ y = c) : UngP o c [92, y] [y] := by
  intro rest
  show ungR o c false (92 :: y :: rest) = _
  rw [ungR, if_pos rfl, if_pos (by rcases h with h | h <;> simp [h])]
  rfl
theorem ungp_all {o c : Nat} : ∀ {l : List Nat}, (∀ x ∈ l, x ≠ 92) → UngP o c l l
  | [], _ => ungp_nil o c
  | x :: _, h => ungp_append (a := [x]) (a' := [x]) (ungp_one (h x (.head _))) (ungp_all fun y hy => h y (.tail _ hy))
/-- the piece without the guard of a delimiter -/
def qu1 (way c : Nat) : List Nat :=
  if way = 1 ∨ (way = 4 ∧ c > 511) then [92, 120, 123] ++ basedR 16 20 c [] ++ [125]
  else if way = 2 then [92, 111, 123] ++ basedR 8 20 c [] ++ [125]
  else if way = 4 then [92] ++ ([48, 48] ++ basedR 8 20 c []).drop (([48, 48] ++ basedR 8 20 c []).length - 3)
  else if way = 3 ∧ c < 256 then [92, 120] ++ ([48] ++ basedR 16 20 c []).drop (([48] ++ basedR 16 20 c []).length - 2)
  else match namedN c with
    | some e => e
    | none => [c]
theorem ops_esc : ∀ o ∈ opsL, ∀ y ∈ hexS ++ [120, 111, 110, 116, 92, 36, 64], y ≠ o ∧ y ≠ closerN o := by decide
theorem hex_92 : ∀ x ∈ hexS, x ≠ 92 := by decide
theorem ungp_qq1 {o : Nat} (ho : o ∈ opsL) (way c : Nat) : UngP o (closerN o) (qq1 o (closerN o) way c) (qu1 way c) := by
  have hE := ops_esc o ho
  have hx : ∀ {l : List Nat}, (∀ x ∈ l, x ∈ hexS) → UngP o (closerN o) l l := fun h => ungp_all fun x hx => hex_92 x (h x hx)
  have es : ∀ (y : Nat) (l : List Nat), y ∈ hexS ++ [120, 111, 110, 116, 92, 36, 64] → (∀ x ∈ l, x ∈ hexS) → UngP o (closerN o) ([92, y] ++ l) ([92, y] ++ l) := fun y l hy h => ungp_append (ungp_esc (hE y hy).1 (hE y hy).2) (hx h)
  have m16 := basedR_mem 16 (by decide) (by decide) 20 c [] (by simp)
  have m8 := basedR_mem 8 (by decide) (by decide) 20 c [] (by simp)
  have z48 : 48 ∈ hexS := by decide
  have br : ∀ (y : Nat) (l : List Nat), y ∈ hexS ++ [120, 111, 110, 116, 92, 36, 64] → (∀ x ∈ l, x ∈ hexS) → UngP o (closerN o) ([92, y, 123] ++ l ++ [125]) ([92, y, 123] ++ l ++ [125]) := by
    intro y l hy h
    rw [show [92, y, 123] ++ l ++ [125] = [92, y] ++ ([123] ++ l ++ [125]) by simp]
    exact ungp_append (ungp_esc (hE y hy).1 (hE y hy).2) (ungp_append (ungp_append (ungp_one (by decide)) (hx h)) (ungp_one (by decide)))
  unfold qq1 qu1
  split
  · exact br 120 _ (by decide) m16
  split
  · exact br 111 _ (by decide) m8
  split
  · have hm : ∀ x ∈ ([48, 48] ++ basedR 8 20 c []).drop (([48, 48] ++ basedR 8 20 c []).length - 3), x ∈ hexS := fun x hx => by
      have := List.mem_of_mem_drop hx
      simp only [List.mem_append, List.mem_cons, List.not_mem_nil, or_false] at this
      rcases this with (h | h) | h
      · rw [h]; exact z48
      · rw [h]; exact z48
      · exact m8 x h
    have hl3 : (([48, 48] ++ basedR 8 20 c []).drop (([48, 48] ++ basedR 8 20 c []).length - 3)).length = 3 := by
      have : 1 ≤ (basedR 8 20 c []).length := basedR_pos 8 19 c
      rw [List.length_drop, List.length_append]
      simp only [List.length_cons, List.length_nil]
      omega
    generalize ([48, 48] ++ basedR 8 20 c []).drop (([48, 48] ++ basedR 8 20 c []).length - 3) = ds at hm hl3
    cases ds with
    | nil => cases hl3
    | cons y r => exact es y r (List.mem_append_left _ (hm y (.head _))) fun x hx => hm x (.tail _ hx)
  split
  · refine es 120 _ (by decide) fun x hx => ?_
    have := List.mem_of_mem_drop hx
    simp only [List.mem_append, List.mem_cons, List.not_mem_nil, or_false] at this
    rcases this with h | h
    · rw [h]; exact z48
    · exact m16 x h
  cases hn : namedN c with
  | some e =>
    dsimp only
    unfold namedN at hn
    (repeat' split at hn) <;> first | (cases hn; exact es _ [] (by decide) (by simp)) | cases hn
  | none =>
    dsimp only
    have h92 : c ≠ 92 := by rintro rfl; cases hn
    split
    · rename_i hh; exact ungp_del hh
    · exact ungp_one h92
def quR (ns : List Int) : Nat → List Nat → List Nat
  | _, [] => []
  | k, c :: r => qu1 (drawN ns k 5) c ++ quR ns (k + 1) r
theorem ung_inqq {o : Nat} (ho : o ∈ opsL) (ns : List Int) : ∀ (l : List Nat) (k : Nat), ungR o (closerN o) false (inqqR ns o (closerN o) k l) = quR ns k l := by
  have key : ∀ (l : List Nat) (k : Nat), UngP o (closerN o) (inqqR ns o (closerN o) k l) (quR ns k l) := by
    intro l
    induction l with
    | nil => intro k; exact ungp_nil _ _
    | cons x r ih => intro k; exact ungp_append (ungp_qq1 ho _ x) (ih (k + 1))
  intro l k
  have := key l k []
  simpa [ungR] using this
end Nz

namespace Nz
theorem at_pre (pre L : List Nat) (j : Nat) : (pre ++ L)[pre.length + j]? = L[j]? := by simp [List.getElem?_append_right]
theorem sg16 : ∀ c ∈ sgL, (basedR 16 20 c []).length ≤ 8 ∧ (∀ x ∈ basedR 16 20 c [], x ≠ 125 ∧ (dig x).any (fun d => decide (d < 16)) = true) ∧ digV 16 (basedR 16 20 c []) = c ∧ c < 55296 := by decide +kernel
theorem sg8 : ∀ c ∈ sgL, (basedR 8 20 c []).length ≤ 8 ∧ (∀ x ∈ basedR 8 20 c [], x ≠ 125 ∧ (dig x).any (fun d => decide (d < 8)) = true) ∧ digV 8 (basedR 8 20 c []) = c := by decide +kernel
theorem dig_of {b x : Nat} (h : (dig x).any (fun d => decide (d < b)) = true) : ∃ d, dig x = some d ∧ d < b := by
  cases hd : dig x with
  | none => rw [hd] at h; cases h
  | some d => rw [hd] at h; exact ⟨d, rfl, by simpa using h⟩
theorem braced_facts (pre cs rest : List Nat) (y : Nat) (hl : cs.length ≤ 8) (hn : ∀ x ∈ cs, x ≠ 125) :
    (pre ++ ([92, y, 123] ++ cs ++ [125] ++ rest))[pre.length + 1]? = some y ∧ (pre ++ ([92, y, 123] ++ cs ++ [125] ++ rest))[pre.length + 2]? = some 123 ∧
    (pre ++ ([92, y, 123] ++ cs ++ [125] ++ rest))[pre.length + 3 + cs.length]? = some 125 ∧
    (∀ j, pre.length + 2 ≤ j → j < pre.length + 3 + cs.length → (pre ++ ([92, y, 123] ++ cs ++ [125] ++ rest))[j]? ≠ some 125) ∧
    (((pre ++ ([92, y, 123] ++ cs ++ [125] ++ rest)).take (pre.length + 3 + cs.length)).drop (pre.length + 2 + 1)).take 8 = cs := by
  refine ⟨by rw [at_pre]; rfl, by rw [at_pre]; rfl, ?_, ?_, ?_⟩
  · rw [show pre.length + 3 + cs.length = pre.length + (3 + cs.length) by omega, at_pre]
    rw [show [92, y, 123] ++ cs ++ [125] ++ rest = ([92, y, 123] ++ cs) ++ (125 :: rest) by simp]
    rw [List.getElem?_append_right (by simp; omega)]
    simp
    first | done | (rw [show 3 + cs.length - (cs.length + 3) = 0 by omega]; rfl)
  · intro j h1 h2
    obtain ⟨i, rfl⟩ : ∃ i, j = pre.length + (2 + i) := ⟨j - pre.length - 2, by omega⟩
    rw [at_pre, Nat.add_comm 2 i]
    show (123 :: (cs ++ [125] ++ rest))[i]? ≠ some 125
    cases i with
    | zero => simp
    | succ i =>
      rw [List.getElem?_cons_succ, List.append_assoc, List.getElem?_append_left (by omega)]
      intro q
      exact hn 125 (List.mem_of_getElem? q) rfl
  · rw [show pre ++ ([92, y, 123] ++ cs ++ [125] ++ rest) = (pre ++ [92, y, 123] ++ cs) ++ ([125] ++ rest) by simp]
    rw [show pre.length + 3 + cs.length = (pre ++ [92, y, 123] ++ cs).length by simp; omega, List.take_left]
    rw [show pre.length + 2 + 1 = (pre ++ [92, y, 123]).length by simp, List.drop_left, List.take_of_length_le hl]
theorem esc_xb {pre cs rest : List Nat} {c : Nat} (hl : cs.length ≤ 8) (h : ∀ x ∈ cs, x ≠ 125 ∧ (dig x).any (fun d => decide (d < 16)) = true) (hV : digV 16 cs = c) (hc : c < 55296) : Piece (pre ++ ([92, 120, 123] ++ cs ++ [125] ++ rest)) pre.length c (pre.length + 3 + cs.length + 1) := by
  obtain ⟨f1, f2, f3, f4, f5⟩ := braced_facts pre cs rest 120 hl fun x hx => (h x hx).1
  subst hV
  exact .inr ⟨by rw [show pre.length = pre.length + 0 from rfl, at_pre]; rfl, Esc.xb f1 f2 (by omega) f3 f4 f5 (fun x hx => dig_of (h x hx).2) hc⟩
theorem esc_ob {pre cs rest : List Nat} {c : Nat} (hl : cs.length ≤ 8) (h : ∀ x ∈ cs, x ≠ 125 ∧ (dig x).any (fun d => decide (d < 8)) = true) (hV : digV 8 cs = c) (hc : c < 55296) : Piece (pre ++ ([92, 111, 123] ++ cs ++ [125] ++ rest)) pre.length c (pre.length + 3 + cs.length + 1) := by
  obtain ⟨f1, f2, f3, f4, f5⟩ := braced_facts pre cs rest 111 hl fun x hx => (h x hx).1
  subst hV
  exact .inr ⟨by rw [show pre.length = pre.length + 0 from rfl, at_pre]; rfl, Esc.ob f1 f2 (by omega) f3 f4 f5 (fun x hx => dig_of (h x hx).2) hc⟩
theorem at_pre0 (pre : List Nat) (x : Nat) (r : List Nat) : (pre ++ (x :: r))[pre.length]? = some x := by simp
theorem piece_one {pre rest : List Nat} {c : Nat} (h1 : c ≠ 92) (h2 : c ≠ 36) (h3 : c ≠ 64) : Piece (pre ++ ([c] ++ rest)) pre.length c (pre.length + 1) := .inl ⟨at_pre0 .., h1, h2, h3, rfl⟩
theorem piece_self {pre rest : List Nat} {c : Nat} (h : c = 92 ∨ c = 36 ∨ c = 64) : Piece (pre ++ ([92, c] ++ rest)) pre.length c (pre.length + 2) := .inr ⟨at_pre0 .., Esc.self (by rw [at_pre]; rfl) h⟩
theorem piece_short {pre rest : List Nat} {c r : Nat} (h : c = 110 ∧ r = 10 ∨ c = 116 ∧ r = 9 ∨ c = 101 ∧ r = 27) : Piece (pre ++ ([92, c] ++ rest)) pre.length r (pre.length + 2) := .inr ⟨at_pre0 .., Esc.short (by rw [at_pre]; rfl) h⟩
theorem piece_oct {pre rest : List Nat} {a b d c : Nat} (h1 : 48 ≤ a) (h2 : a ≤ 55) (h : ∀ x ∈ [a, b, d], (dig x).any (fun d => decide (d < 8)) = true) (hV : digV 8 [a, b, d] = c) (hc : c < 55296) : Piece (pre ++ ([92, a, b, d] ++ rest)) pre.length c (pre.length + 4) := by
  subst hV
  exact .inr ⟨at_pre0 .., Esc.oct (cs := [a, b, d]) (by rw [at_pre]; rfl) h1 h2 (by
    rw [show pre ++ ([92, a, b, d] ++ rest) = (pre ++ [92]) ++ ([a, b, d] ++ rest) by simp]
    rw [show pre.length + 1 = (pre ++ [92]).length by simp, List.drop_left]; rfl) (fun x hx => dig_of (h x hx)) hc⟩
theorem piece_xx {pre rest : List Nat} {a b c : Nat} (h1 : a ≠ 123) (h : ∀ x ∈ [a, b], (dig x).any (fun d => decide (d < 16)) = true) (hV : digV 16 [a, b] = c) (hc : c < 55296) : Piece (pre ++ ([92, 120, a, b] ++ rest)) pre.length c (pre.length + 4) := by
  subst hV
  exact .inr ⟨at_pre0 .., Esc.xx (cs := [a, b]) (by rw [at_pre]; rfl) (by rw [at_pre]; rfl) h1 (by
    rw [show pre ++ ([92, 120, a, b] ++ rest) = (pre ++ [92, 120]) ++ ([a, b] ++ rest) by simp]
    rw [show pre.length + 2 = (pre ++ [92, 120]).length by simp, List.drop_left]; rfl) (fun x hx => dig_of (h x hx)) hc⟩
def ok4 (P : List Nat) (c : Nat) : Bool := match P with
  | [a, b, d] => decide (48 ≤ a) && decide (a ≤ 55) && [a, b, d].all (fun x => (dig x).any (fun d => decide (d < 8))) && (digV 8 [a, b, d] == c)
  | _ => false
def ok3 (P : List Nat) (c : Nat) : Bool := match P with
  | [a, b] => (a != 123) && [a, b].all (fun x => (dig x).any (fun d => decide (d < 16))) && (digV 16 [a, b] == c)
  | _ => false
theorem sg4 : ∀ c ∈ sgL, c > 511 ∨ ok4 (([48, 48] ++ basedR 8 20 c []).drop (([48, 48] ++ basedR 8 20 c []).length - 3)) c = true := by decide +kernel
theorem sg3 : ∀ c ∈ sgL, ¬ c < 256 ∨ ok3 (([48] ++ basedR 16 20 c []).drop (([48] ++ basedR 16 20 c []).length - 2)) c = true := by decide +kernel
theorem piece_qu1 {way c : Nat} (hw : way < 5) (hc : c ∈ sgL) (pre rest : List Nat) : Piece (pre ++ (qu1 way c ++ rest)) pre.length c (pre.length + (qu1 way c).length) := by
  obtain ⟨a1, a2, a3, a4⟩ := sg16 c hc
  obtain ⟨b1, b2, b3⟩ := sg8 c hc
  unfold qu1
  split
  · have := esc_xb (pre := pre) (rest := rest) a1 a2 a3 a4
    rw [show pre.length + 3 + (basedR 16 20 c []).length + 1 = pre.length + ([92, 120, 123] ++ basedR 16 20 c [] ++ [125]).length by simp; omega] at this
    exact this
  split
  · have := esc_ob (pre := pre) (rest := rest) b1 b2 b3 a4
    rw [show pre.length + 3 + (basedR 8 20 c []).length + 1 = pre.length + ([92, 111, 123] ++ basedR 8 20 c [] ++ [125]).length by simp; omega] at this
    exact this
  split
  · rename_i h1 h2 h3
    have h := (sg4 c hc).resolve_left (by omega)
    generalize ([48, 48] ++ basedR 8 20 c []).drop (([48, 48] ++ basedR 8 20 c []).length - 3) = P at h
    unfold ok4 at h
    split at h
    · simp only [Bool.and_eq_true, decide_eq_true_eq, List.all_eq_true, beq_iff_eq] at h
      exact piece_oct h.1.1.1 h.1.1.2 h.1.2 h.2 a4
    · cases h
  split
  · rename_i h4
    have h := (sg3 c hc).resolve_left (by omega)
    generalize ([48] ++ basedR 16 20 c []).drop (([48] ++ basedR 16 20 c []).length - 2) = P at h
    unfold ok3 at h
    split at h
    · simp only [Bool.and_eq_true, bne_iff_ne, List.all_eq_true, beq_iff_eq] at h
      exact piece_xx h.1.1 h.1.2 h.2 a4
    · cases h
  cases hn : namedN c with
  | some e =>
    dsimp only
    unfold namedN at hn
    (repeat' split at hn) <;> first | (cases hn; subst_vars; first | exact piece_short (by decide) | exact piece_self (by decide)) | cases hn
  | none =>
    dsimp only
    have h92 : c ≠ 92 := by rintro rfl; cases hn
    have h36 : c ≠ 36 := by rintro rfl; cases hn
    have h64 : c ≠ 64 := by rintro rfl; cases hn
    exact piece_one h92 h36 h64
theorem dec_quR (ns : List Int) : ∀ (l : List Nat) (k : Nat) (pre : List Nat), (∀ c ∈ l, c ∈ sgL) → Dec (pre ++ quR ns k l) pre.length l := by
  intro l
  induction l with
  | nil => intro k pre _; exact .done (by simp [quR])
  | cons c r ih =>
    intro k pre h
    refine .step (piece_qu1 (drawN_lt (by decide)) (h c (.head _)) pre _) ?_
    have := ih (k + 1) (pre ++ qu1 (drawN ns k 5) c) fun x hx => h x (.tail _ hx)
    rw [List.append_assoc, List.length_append] at this
    exact this
end Nz

namespace Nz
abbrev whole (A : List Nat) (o : Nat) (raw : List Nat) : List Nat := A ++ [o] ++ raw ++ [closerN o] ++ [o]
theorem whole_at (A : List Nat) (o : Nat) (raw : List Nat) : (A ++ [o] ++ raw ++ [closerN o] ++ [o])[A.length]? = some o := by simp
theorem whole_len (A : List Nat) (o : Nat) (raw : List Nat) : (A ++ [o] ++ raw ++ [closerN o] ++ [o]).length = A.length + raw.length + 3 := by simp; omega
theorem whole_take (A : List Nat) (o : Nat) (raw : List Nat) : (A ++ [o] ++ raw ++ [closerN o] ++ [o]).take A.length = A := by simp
theorem whole_in (A : List Nat) (o : Nat) (raw : List Nat) : ((A ++ [o] ++ raw ++ [closerN o] ++ [o]).drop (A.length + 1)).take (A.length + 1 + raw.length - (A.length + 1)) = raw := by
  have e : (A ++ [o] ++ raw ++ [closerN o] ++ [o]).drop (A.length + 1) = raw ++ ([closerN o] ++ [o]) := by
    rw [show A ++ [o] ++ raw ++ [closerN o] ++ [o] = (A ++ [o]) ++ (raw ++ ([closerN o] ++ [o])) by simp]
    rw [show A.length + 1 = (A ++ [o]).length by simp, List.drop_left]
  rw [e, show A.length + 1 + raw.length - (A.length + 1) = raw.length by omega, List.take_left]
theorem whole_drop (A : List Nat) (o : Nat) (raw : List Nat) : (A ++ [o] ++ raw ++ [closerN o] ++ [o]).drop (A.length + 1) = raw ++ [closerN o, o] := by
  rw [show A ++ [o] ++ raw ++ [closerN o] ++ [o] = (A ++ [o]) ++ (raw ++ [closerN o, o]) by simp]
  rw [show A.length + 1 = (A ++ [o]).length by simp, List.drop_left]
theorem cut_at (A : List Nat) (o : Nat) (raw : List Nat) : (A ++ [o] ++ raw ++ [92] ++ [closerN o])[A.length]? = some o := by simp
theorem cut_take (A : List Nat) (o : Nat) (raw : List Nat) : (A ++ [o] ++ raw ++ [92] ++ [closerN o]).take A.length = A := by simp
theorem inq28 {o : Nat} {tx : List Nat} (_ : o ∈ opsL) (h : tx.length ≤ 14) : (inqR o (closerN o) tx).length ≤ 28 := by
  have := inqR_len o (closerN o) tx
  omega
theorem whole_cmp (A : List Nat) (o : Nat) (raw : List Nat) : ((A.length + 1 + raw.length + 1 : Nat) : Int) = ((A ++ [o] ++ raw ++ [closerN o] ++ [o]).length : Nat) - 1 := by rw [whole_len]; omega
/-- P1 -/
theorem delim_inq {A : List Nat} {o : Nat} {tx : List Nat} (ho : o ∈ opsL) : delimR o (closerN o) ((A ++ [o] ++ inqR o (closerN o) tx ++ [closerN o] ++ [o]).drop (A.length + 1)) 1 (A.length + 1) = some (A.length + 1 + (inqR o (closerN o) tx).length) := by
  rw [whole_drop]
  exact pass_end ho (pass_inq ho tx) _
/-- P2 -/
theorem ung_inq {o : Nat} {tx : List Nat} (ho : o ∈ opsL) : ungR o (closerN o) true (inqR o (closerN o) tx) = tx := ung_inq' tx
/-- P3 -/
theorem delim_inqq {A : List Nat} {o k : Nat} {tx : List Nat} {ns : List Int} (ho : o ∈ opsL) (hm : ∀ c ∈ tx, c ∈ sgL) : delimR o (closerN o) ((A ++ [o] ++ inqqR ns o (closerN o) k tx ++ [closerN o] ++ [o]).drop (A.length + 1)) 1 (A.length + 1) = some (A.length + 1 + (inqqR ns o (closerN o) k tx).length) := by
  rw [whole_drop]
  exact pass_end ho (pass_inqq ho ns tx k) _
/-- P4 -/
theorem dec_inqq {o k : Nat} {tx : List Nat} {ns : List Int} (ho : o ∈ opsL) (hm : ∀ c ∈ tx, c ∈ sgL) : Dec (ungR o (closerN o) false (inqqR ns o (closerN o) k tx)) 0 tx := by
  rw [ung_inqq ho]
  exact dec_quR ns tx k [] hm
/-- P5 -/
theorem delim_cut {A : List Nat} {o k : Nat} {tx : List Nat} {ns : List Int} (ho : o ∈ opsL) (hm : ∀ c ∈ tx, c ∈ sgL) : delimR o (closerN o) ((A ++ [o] ++ inqqR ns o (closerN o) k tx ++ [92] ++ [closerN o]).drop (A.length + 1)) 1 (A.length + 1) = none := by
  rw [show A ++ [o] ++ inqqR ns o (closerN o) k tx ++ [92] ++ [closerN o] = (A ++ [o]) ++ (inqqR ns o (closerN o) k tx ++ [92, closerN o]) by simp]
  rw [show A.length + 1 = (A ++ [o]).length by simp, List.drop_left]
  exact pass_cut (pass_inqq ho ns tx k) _
theorem sgL_le : ∀ c ∈ sgL, c ≤ 100000 := by decide
theorem ung_len (o c : Nat) (pl : Bool) : ∀ (n : Nat) (l : List Nat), l.length ≤ n → (ungR o c pl l).length ≤ l.length := by
  intro n
  induction n with
  | zero => intro l h; match l, h with | [], _ => simp [ungR]
  | succ n ih =>
    intro l h
    match l, h with
    | [], _ => simp [ungR]
    | [x], _ => simp [ungR]
    | x :: y :: r, h =>
      simp only [List.length_cons] at h
      rw [ungR]
      have h1 := ih r (by omega)
      have h2 := ih (y :: r) (by simp only [List.length_cons]; omega)
      simp only [List.length_cons] at h2
      split
      · split <;> simp only [List.length_cons] <;> omega
      · simp only [List.length_cons]; omega
theorem facts1 {o : Nat} (ho : o ∈ opsL) (A : List Nat) {tx : List Nat} (h : tx.length ≤ 14) :
    (inqR o (closerN o) tx).length ≤ 28 ∧ (A ++ [o] ++ inqR o (closerN o) tx ++ [closerN o] ++ [o])[A.length]? = some o ∧
    delimR o (closerN o) ((A ++ [o] ++ inqR o (closerN o) tx ++ [closerN o] ++ [o]).drop (A.length + 1)) 1 (A.length + 1) = some (A.length + 1 + (inqR o (closerN o) tx).length) ∧
    ((A ++ [o] ++ inqR o (closerN o) tx ++ [closerN o] ++ [o]).drop (A.length + 1)).take (A.length + 1 + (inqR o (closerN o) tx).length - (A.length + 1)) = inqR o (closerN o) tx ∧
    A.length + 1 + (inqR o (closerN o) tx).length + 1 = A.length + 1 + (inqR o (closerN o) tx).length + 1 ∧
    ((A.length + 1 + (inqR o (closerN o) tx).length + 1 : Nat) : Int) = ((A ++ [o] ++ inqR o (closerN o) tx ++ [closerN o] ++ [o]).length : Nat) - 1 ∧
    (A ++ [o] ++ inqR o (closerN o) tx ++ [closerN o] ++ [o]).take A.length = A ∧
    ungR o (closerN o) true (inqR o (closerN o) tx) = tx :=
  ⟨inq28 ho h, whole_at .., delim_inq ho, whole_in .., rfl, whole_cmp .., whole_take .., ung_inq ho⟩
theorem facts2 {o : Nat} (ho : o ∈ opsL) (A : List Nat) {tx : List Nat} (h : tx.length ≤ 14) (hm : ∀ c ∈ tx, c ∈ sgL) (ns : List Int) (k : Nat) :
    (inqqR ns o (closerN o) k tx).length ≤ 420 ∧ (A ++ [o] ++ inqqR ns o (closerN o) k tx ++ [closerN o] ++ [o])[A.length]? = some o ∧
    delimR o (closerN o) ((A ++ [o] ++ inqqR ns o (closerN o) k tx ++ [closerN o] ++ [o]).drop (A.length + 1)) 1 (A.length + 1) = some (A.length + 1 + (inqqR ns o (closerN o) k tx).length) ∧
    ((A ++ [o] ++ inqqR ns o (closerN o) k tx ++ [closerN o] ++ [o]).drop (A.length + 1)).take (A.length + 1 + (inqqR ns o (closerN o) k tx).length - (A.length + 1)) = inqqR ns o (closerN o) k tx ∧
    A.length + 1 + (inqqR ns o (closerN o) k tx).length + 1 = A.length + 1 + (inqqR ns o (closerN o) k tx).length + 1 ∧
    ((A.length + 1 + (inqqR ns o (closerN o) k tx).length + 1 : Nat) : Int) = ((A ++ [o] ++ inqqR ns o (closerN o) k tx ++ [closerN o] ++ [o]).length : Nat) - 1 ∧
    Dec (ungR o (closerN o) false (inqqR ns o (closerN o) k tx)) 0 tx ∧ (ungR o (closerN o) false (inqqR ns o (closerN o) k tx)).length ≤ 420 ∧
    (A ++ [o] ++ inqqR ns o (closerN o) k tx ++ [92] ++ [closerN o])[A.length]? = some o ∧
    delimR o (closerN o) ((A ++ [o] ++ inqqR ns o (closerN o) k tx ++ [92] ++ [closerN o]).drop (A.length + 1)) 1 (A.length + 1) = none ∧
    (A ++ [o] ++ inqqR ns o (closerN o) k tx ++ [92] ++ [closerN o]).take A.length = A := by
  have hL := inqqR_len ns o (closerN o) tx k
  have hL2 := ung_len o (closerN o) false _ (inqqR ns o (closerN o) k tx) (Nat.le_refl _)
  exact ⟨by omega, whole_at .., delim_inqq ho hm, whole_in .., rfl, whole_cmp .., dec_inqq ho hm, by omega, cut_at .., delim_cut ho hm, cut_take ..⟩
end Nz

namespace Nz
section
variable {w : World} {A₀ : Around} {E : Value → Shared → Prop} {s' : Shared} {h₀ h : Heap} {outer : List Env} {L a e D : Addr} {m : PySem.Str → Option Value} {name : PySem.Str} {scope : Scope} {cd : Value} {cl : List (PySem.Str × Addr)}
  {n : PySem.Str} {b₀ : Stmt} {suite : List Stmt} {pos np : Pos} {rest : List ExceptHandler} {Q : Flow → Shared → Prop} {news : List (Addr × Obj)} {p : Program} {loose : List PySem.Str} {mg mb : PySem.Str → Option Value} {x : PySem.Str} {mean : ExcName → Option Value}
theorem caught_X {env : Env} (he : env = envX name scope L a cd cl) (K : Below A₀ h₀ outer h₀) (F : Fr h₀ L h m) (hsm : h.UpToSlots s'.heap) (R : RaisedX h₀ (envX name scope L a cd cl :: outer) e D (.ref 51) news s'.heap)
    (X : (hd.heap_39 w.params).In h₀) (T : TopRead p loose mg mb h₀) (ex : nsIn (hd.heap_39 w.params) mainGlobals x = some (some (.ref 51)))
    (hk : scope.kind = .function) (hlo : env.kindOf n = some .local) (hx : env.kindOf x = some .globalImplicit) (hd : (x == ("__debug__" : PySem.Str)) = false)
    (k : ∀ h' vs sl tk, Fr h₀ L h' (fun y => if y = n then some (.ref e) else m y) → News h₀ L h' ((e, ⟨.ref 51, some D, .fields vs, sl⟩) :: news) →
      wpAny (model PR w) ((A₀.deeper env).mark (some (.ref e))) (execs (b₀ :: suite) env)
        (fun f s₄ => wpAny (model PR w) (A₀.deeper env) (do bindName env n .none; unbindBehindTheSuite env n pos) (fun _ s₅ => Q f s₅) E s₄)
        (AsSuiteRaised (model PR w) ((A₀.deeper env).mark (some (.ref e))) env n pos (notedBy (model PR w) ((A₀.deeper env).mark (some (.ref e))) env (cameBackBy (model PR w) (A₀.deeper env) env E)))
        { s' with heap := h', toks := tk }) :
    wpAny (model PR w) (A₀.deeper env) (noteFrame (.ref e) env)
      (fun _ s₂ => wpAny (model PR w) (A₀.deeper env) (setFlight (.ref e) none) (fun _ s₃ =>
        wpAny (model PR w) (A₀.deeper env) (handleBy (.ref e) env (.ExceptHandler (some (.Name x np)) (some n) (b₀ :: suite) pos :: rest)) Q E s₃) E s₂) E s' := by
  subst he
  obtain ⟨B, hB, hl, hfl⟩ := R
  have hL : B.get? L = none := by
    obtain ⟨_, _, ⟨_, ⟨L', _, hf, hn', _⟩, _⟩, _⟩ := hfl
    obtain rfl : L = L' := Option.some.inj hf
    exact hn'
  refine flx_on (Around.frames_deeper K.stack) rfl hfl fun h₄ x4 u4 => ?_
  refine flx_lands x4 fun h₅ x5 u5 => ?_
  have hsm₅ := u4.trans u5
  have x5' := flx_base hB x5
  have F₅ := F.of_stays x5'.1 (hsm.trans hsm₅)
  obtain ⟨_, _, _, oe, vs, _, _, _, hoe, ⟨hoec, hoed⟩, hod, _⟩ := x5'
  refine wpAny_handleBy_cons (codeAny_handlers_test (nameX_K F₅ X T ex ?_ hk hx hd)) (by intro q; cases q)
  obtain ⟨nm, q, bs, hdct, sn, sub, ab, col, dd, k0, k1, k2, k3, k5, hK⟩ := cls51 w.params
  refine wpAny_excMatches_sub_self (F₅.keep _ _ (X _ _ hK)) hoe hoec (by decide) (codeAny_handlers_suite_as ?_)
  refine flx_lands x5 fun h₆ x6 u6 => ?_
  have x6' := flx_base hB x6
  have F₆ := F.of_stays x6'.1 ((hsm.trans hsm₅).trans u6)
  obtain ⟨y1, y2, y3, oe', vs', _, _, _, z1, ⟨z2, z3⟩, z4, _⟩ := x6'
  obtain ⟨oc, odi, oda, osl⟩ := oe'
  dsimp only at z2 z3 z4
  subst z2 z3 z4
  have Nl : News h₀ L h₆ news := fun q hq => ⟨x6.1 _ _ (hl q hq).1, (fun z => by have := (hl q hq).1; rw [z, hL] at this; cases this), (hl q hq).2⟩
  have N₆ : News h₀ L h₆ ((e, ⟨.ref 51, some D, .fields vs', osl⟩) :: news) := News.more F₆ Nl z1 (fun es n q => by cases q) y2
  refine storeX_L F₆ N₆ (fun h₇ F₇ N₇ => ?_) hk hlo
  exact k h₇ _ _ _ F₇ N₇
end
section
variable {w : World} {A : Around} {E : Value → Shared → Prop} {s : Shared} {K : Frag} {x C : Addr} {ox : Obj} {od : Option Obj} {name : PySem.Str} {expr : Bool} {Q : Value → Shared → Prop}
theorem exc_get {v : Value} (X : K.In s.heap) (I : InstAt s.heap x ox C od) (hp : excMro K C) (hga : findIn K (.ref C) "__getattribute__" = some (some (.builtin "BaseException.__getattribute__"))) (hgt : findIn K (.ref C) "__getattr__" = some none)
    (hf : findObj K C od name = some (.value v)) (hh : handedIn v = true) (h : Q v { s with toks := s.toks + 1 }) : wpAny (model PR w) A (getAttr (.ref x) name expr) Q E s := by
  have L0 := I.type (M := model PR w)
  have L1 := looks_findIn (M := model PR w) X hga
  have L2 := looks_findIn (M := model PR w) X hgt
  have L3 := looks_find (M := model PR w) X I hf
  obtain ⟨cd, Pa, hc, hmro, hdic⟩ := hp
  have sub : Looks (model PR w) s.heap (isInstance (.ref x) (.type "BaseException")) true := I.type.andThen (looks_mroIn X (by unfold mroIn; rw [hc, Option.bind_some, hmro]; simp))
  have FB := PySem.F.attrBase_Exception
  obtain ⟨hh', g, d, t, os⟩ := s
  unfold getAttr getAttrBy
  refine wpAny_bind (wpAny_mkText (wpAny_holding (wpAny_bind (L0.at (wpAny_bind (L1.at ?_))))))
  show wpAny _ _ (if (onTheHeap (Value.ref C) && Value.builtin "BaseException.__getattribute__" == Value.builtin "object.__getattribute__") = true then _ else getAttrByItsOwn _ _ _ _ _ _) _ _ _
  rw [if_neg (by simp)]
  unfold getAttrByItsOwn hookBefore callGetattribute boundAndCalled
  have hx0 : (expr && onTheHeap (Value.builtin "BaseException.__getattribute__")) = false := by cases expr <;> rfl
  rw [if_pos (show onTheHeap (Value.ref C) = true from rfl), hx0, if_neg (show ¬ (false = true) by decide)]
  refine wpAny_bind (L2.at (wpAny_bind (wpAny_attempt (wpAny_holding ?_))))
  rw [FB.ga.bind (.ref x)]
  refine wpAny_bind (wpAny_pure (wpAny_call ?_))
  refine codeAny_call_builtin FB.ga.plain PySem.F.entry_bexc_ga (@check_slot (model PR w) _ _ ⟨hh', g, d, t + 1, os⟩ "BaseException.__getattribute__" "BaseException" "__getattribute__" (.ref x) [.str name t] [] _ (by decide +kernel) (by decide +kernel) sub (PySem.F.args_bexc_ga (.ref x) (.str name t)) ?_)
  unfold Builtin.«object.__getattribute__»
  refine wpAny_bind (wpAny_pure (wpAny_bind (wpAny_pure (wpAny_bind (L0.at (wpAny_bind (L3.at ?_)))))))
  refine wpAny_pure ?_
  show wpAny _ _ (handedOut v) _ _ _
  rw [handedOut_of hh]
  exact wpAny_pure h
end
section
variable {w : World} {A : Around} {E : Value → Shared → Prop} {s : Shared} {h₀ : Heap} {L e D : Addr} {m : PySem.Str → Option Value} {news : List (Addr × Obj)} {expr : Bool} {Q : Value → Shared → Prop}
theorem ga51 (P : PySem.Params) : findIn (hd.heap_39 P) (.ref 51) "__getattribute__" = some (some (.builtin "BaseException.__getattribute__")) := by kernel_rfl
theorem gt51 (P : PySem.Params) : findIn (hd.heap_39 P) (.ref 51) "__getattr__" = some none := by kernel_rfl
theorem ln51 (P : PySem.Params) : findIn (hd.heap_39 P) (.ref 51) (PySem.Str.ofString "line") = some none := by kernel_rfl
theorem hd51 (P : PySem.Params) : hasDictIn (hd.heap_39 P) 51 = true := rfl
theorem exc_line {vs : Array Value} {sl : Array (Option Value)} {tk1 tk2 t : Tok} {v : Value} {i : Int} (F : Fr h₀ L s.heap m) (X : (hd.heap_39 w.params).In h₀)
    (N : News h₀ L s.heap ((e, ⟨.ref 51, some D, .fields vs, sl⟩) :: (D, dict2 w.params tk1 tk2 v (.int i t)) :: news)) (h : Q (.int i t) { s with toks := s.toks + 1 }) :
    wpAny (model PR w) A (getAttr (.ref e) (PySem.Str.ofString "line") expr) Q E s :=
  exc_get (X.keeps F.keep) (ox := ⟨.ref 51, some D, .fields vs, sl⟩) (od := some (dict2 w.params tk1 tk2 v (.int i t))) ⟨(N _ (.head _)).1, rfl, rfl, (N _ (.tail _ (.head _))).1⟩ (mro51 _) (ga51 _) (gt51 _) (findObj_own (hd51 _) (ln51 _) rfl (by with_unfolding_all rfl)) rfl h
end
section
variable {M : Model} {A : Around} {E : Value → Shared → Prop} {s : Shared} {name : PySem.Str} {scope : Scope} {L a : Addr} {cd : Value} {cl : List (PySem.Str × Addr)} {h₀ : Heap} {m : PySem.Str → Option Value} {news : List (Addr × Obj)}
theorem name_goesX {n : PySem.Str} {pos : Pos} {Q : Unit → Shared → Prop} (F : Fr h₀ L s.heap m) (N : News h₀ L s.heap news)
    (h : ∀ h' v, Fr h₀ L h' (fun x => if x = n then v else m x) → News h₀ L h' news → Q () { s with heap := h', toks := s.toks + 1 })
    (hk : scope.kind = .function) (hl : (envX name scope L a cd cl).kindOf n = some .local) :
    wpAny M A (do bindName (envX name scope L a cd cl) n .none; unbindBehindTheSuite (envX name scope L a cd cl) n pos) Q E s :=
  wpAny_nameGoes_keeps hl F.ns (by show (scope.kind == .class || (scope.kind == .module && L != mainGlobals)) = false; rw [hk]; rfl) fun h' v hn hs => h h' v (F.set hn hs) (N.set hs)
end
end Nz
theorem Nz.reg_p48a_catch_0 : True := by
  k_with "getAttr ref" => (k_here; (refine' Nz.exc_line (by k_asm) (by k_asm) (by with_reducible assumption) ?_))
  k_with "bind" => (k_here; (refine' Nz.name_goesX (by k_asm) (by k_asm) ?_ (by exact rfl) (by exact rfl); intro _ _ _ _))
  trivial
namespace Nz
theorem slice_from (l : List Nat) (k : Nat) : Txt.slice (S l) (some (k : Int)) none = S (l.drop k) := by
  have e : Txt.slice (S l) (some (k : Int)) none = Txt.slice (S l) (some ((min k l.length : Nat) : Int)) (some (l.length : Int)) := by
    unfold Txt.slice
    rw [StrLaws.sliceIdx_none_hi, S_length, idx_clip (k : Int) (l.length : Int) _ (by omega) (by omega), Int.toNat_natCast, Int.toNat_natCast, Nat.min_self]
  rw [e, slice_S l _ _ (by omega) (by omega)]
  congr 1
  rw [Int.toNat_natCast, List.take_of_length_le]
  · by_cases h : k ≤ l.length
    · rw [Nat.min_eq_left h]
    · rw [Nat.min_eq_right (by omega), List.drop_of_length_le (Nat.le_refl _), List.drop_of_length_le (by omega)]
  · rw [List.length_drop]
    omega
section
variable {prog : Program} {w : World} {A : Around} {E : Value → Shared → Prop} {s : Shared} {value slice : PySem.Expr} {t u v ui : Tok} {h₀ : Heap} {L : Addr} {m : PySem.Str → Option Value} {news : List (Addr × Obj)} {Q : Value → Shared → Prop} {l a b : List Nat} {i : Int} {k : Nat}
theorem nz_slice_from (hF : Fr h₀ L s.heap m) (hN : News h₀ L s.heap news) (h0 : i = (k : Nat)) (hsz : l.length ≤ 65536) (h : ∀ h' t' tk, Fr h₀ L h' m → News h₀ L h' news → Q (.str (S (l.drop k)) t') { s with heap := h', toks := tk })
    (hs : subscripted slice false (.str (S l) t) (.ref s.heap.objs.size) = operate [.ref s.heap.objs.size, .str (S l) t] (getItem (.str (S l) t) (.ref s.heap.objs.size)) := by with_unfolding_all rfl)
    (ht : ∀ r, letTemporaryGo value (.str (S l) t) r = pure () := by intro _; with_unfolding_all rfl) :
    wpAny (model prog w) A (subscriptTail value slice (.str (S l) t) (.ref s.heap.objs.size)) Q E { s with heap := s.heap.push { cls := .type "slice", data := .fields #[.int i ui, .none, .none] } } := by
  refine slice_strN_sn hF hN (fun h' t' k' a b => ?_) hs ht (by rw [S_length, PySem.sizeLine_eq]; omega)
  rw [h0, slice_from]
  exact h h' t' k' a b
theorem nz_listItem {x : Addr} {vs : List Value} {rs : List (List Nat)} {r : List Nat} {n : Nat} (hl : s.heap.IsList x vs.toArray) (hi : StrsAre vs (rs.map S)) (h0 : i = (n : Nat)) (hr : rs[n]? = some r) (hn : n ≤ 65536) (h : ∀ t', Q (.str (S r) t') s)
    (hs : subscripted slice false (.ref x) (.int i u) = operate [.ref x, .int i u] (getItem (.ref x) (.int i u)) := by with_unfolding_all rfl) (hg : ∀ r, letTemporaryGo value (.ref x) r = pure () := by intro _; with_unfolding_all rfl) :
    wpAny (model prog w) A (subscriptTail value slice (.ref x) (.int i u)) Q E s := by
  subst h0
  have e : (rs.map S)[n]? = some (S r) := by rw [List.getElem?_map, hr]; rfl
  obtain ⟨t, ht⟩ := hi.at e
  exact item_listL hl (by omega) (by omega) ht (h t) hs hg
theorem nz_lenL {x : Addr} {vs : List Value} {rs : List (List Nat)} (hl : s.heap.IsList x vs.toArray) (hi : StrsAre vs (rs.map S)) (hn : rs.length ≤ 65536) (h : Q (.int (rs.length : Nat) (s.toks + 1)) { s with toks := s.toks + 1 + 1 }) :
    wpAny (model prog w) A (call (.builtin "len") [.ref x]) Q E s :=
  len_strsA hl hi (by rw [List.length_map]; omega) (by rw [List.length_map]; exact h)
theorem nz_eqT (e : a = b) (h : Q (.bool true) s) : wpAny (model prog w) A (compareOp .Eq (.str (S a) t) (.str (S b) u)) Q E s := nz_eq (by simpa [e] using h)
theorem nz_eqF (e : a ≠ b) (h : Q (.bool false) s) : wpAny (model prog w) A (compareOp .Eq (.str (S a) t) (.str (S b) u)) Q E s := nz_eq (by simpa [e] using h)
end
end Nz
theorem Nz.reg_p47h_here_0 : True := by
  k_with "compareOp Eq str str" => (k_here; first | ((with_reducible refine' Nz.nz_eqT (by first | with_reducible assumption | with_reducible exact rfl) ?_)) | ((with_reducible refine' Nz.nz_eqF (by with_reducible assumption) ?_)))
  k_with "call builtin:len" => (k_here; (with_reducible show wpAny _ _ (call (Value.builtin _) [Value.ref _]) _ _ _); (refine' Nz.nz_lenL (by is_list) (by with_reducible assumption) (by walk_at "nz sz") ?_))
  k_with "nz listitem" => (k_here; (with_reducible show wpAny _ _ (subscriptTail _ _ (Value.ref _) (Value.int _ _)) _ _ _); ((with_reducible refine' Nz.nz_listItem (by is_list) (by with_reducible assumption) (by walk_at "nz nat") (by with_reducible assumption) (by walk_at "nz sz") ?_ (by k_dflt (with_unfolding_all rfl)) (by k_dflt (intro _; with_unfolding_all rfl))); k_whole; intro _))
  k_with "subscriptTail Name Name ref int" => walk_at "nz listitem"
  k_with "subscriptTail Subscript Slice str ref" => walk_at "nz sliceto"
  k_with "nz slicefrom" => (k_here; (with_reducible show wpAny _ _ (subscriptTail _ (Expr.Slice (some _) none none _) (Value.str _ _) (Value.ref _)) _ _ _); (with_reducible rename Fr _ _ _ _ => F'); (with_reducible rename News _ _ _ _ => N'); ((with_reducible refine' Nz.nz_slice_from (s := ⟨_, _, _, _, _⟩) F' N' (by walk_at "nz nat") (by k_dflt (walk_at "nz sz")) ?_ (by k_dflt (with_unfolding_all rfl)) (by k_dflt (intro _; with_unfolding_all rfl))); k_whole; intro _ _ _ _ _))
  k_with "subscriptTail Name Slice str ref" => first | walk_at "nz slicefrom" | walk_at "nz slice" | walk_at "nz sliceto"
  trivial
namespace Nz
set_option maxHeartbeats 4000000 in
theorem ct_hereend (w mean mg mb news) (ls : Addr) (vs : List Value) (n : Nat) (rs : List (List Nat)) (t0 t1 : Tok) (hv : StrsAre vs ((rs ++ [[69]]).map S)) (hr : ∀ r ∈ rs, r ≠ [69]) (hl : rs.length ≤ 100) :
    Ct w mean mg mb 153 4 60 ((ls, listOf vs.toArray n) :: news) [.ref ls, .int 0 t0, .str (S [69]) t1, .bool false] (RI ((ls, listOf vs.toArray n) :: news) (rs.length : Nat)) := by
  intro dp un gd cn cs' a ccd cl outer A₀ base h₀ L m s Q E B F X N T hk hd hu hret
  walk_at "nz in"
  k_steps
  refine Hold.mk ?_
  rename Fr _ _ _ _ => lF
  rename News _ _ _ ((ls, listOf vs.toArray n) :: _) => lN
  rename IsRange _ _ _ _ _ _ _ _ => rg
  have hlen : (rs ++ [[69]]).length = rs.length + 1 := by simp
  refine kst_range (σ := Unit) (fun _ => (ls, listOf vs.toArray n) :: news) (fun _ => []) (fun _ => True) [Str.ofString "row"] (fun pre _ => pre.length ≤ rs.length) () (by rfl) rg (small_one (by omega) (by omega) (by omega) (by omega)) (rangeSize_nat _ _) lF lN trivial (List.forall_mem_nil _) (Nat.zero_le _) ?_ ?_
  · rintro _ pre k t kU h tk own rfl hlt hoff _ hP kFr kNews
    clear lF lN
    dsimp only [kstB] at kFr
    (try dsimp only at kNews)
    have e0 : (0 : Int) + (pre.length : Int) = ((pre.length : Nat) : Int) := by omega
    rw [e0] at kFr
    have hP' : pre.length ≤ rs.length := hP
    have hlb : (rs ++ [[69]]).length ≤ 65536 := by omega
    by_cases hin : pre.length < rs.length
    · obtain ⟨r, hx⟩ : ∃ r, rs[pre.length]? = some r := ⟨rs[pre.length], by simp⟩
      have hx2 : (rs ++ [[69]])[pre.length]? = some r := by rw [List.getElem?_append_left hin, hx]
      have hne := hr r (List.mem_of_getElem? hx)
      k_steps
      rename Fr _ _ _ _ => eF
      rename News _ _ _ _ => eN
      refine Hold.mk ?_
      refine kst_end () eF eN (by intro p hp; simp at hp ⊢; rcases hp with hp | hp <;> simp [hp]) (by intro p hp; simp [hp]) rfl trivial (List.forall_mem_nil _) (by kst_same) ?_
      show (pre ++ [0 + (pre.length : Int)]).length ≤ rs.length
      rw [List.length_append, List.length_singleton]
      omega
    · have ex : pre.length = rs.length := by omega
      have hx2 : (rs ++ [[69]])[pre.length]? = some [69] := by rw [ex]; simp
      k_steps
      rename News h₀ _ _ _ => kN
      rw [ex]
      exact hret _ _ _ (by assumption) (fun p hp => kN p (List.mem_append_left _ hp))
  · rintro _ kU h tk _ hP _ _
    exfalso
    have hP' : (rangeKs 0 (rs ++ [[69]]).length).length ≤ rs.length := hP
    rw [rangeKs_length] at hP'
    omega
end Nz
theorem Nz.reg_p47h_here_1 : True := by
  k_with "call ref" => (k_here; (guard_target =~ wpAny _ _ (call (Value.ref 153) _) _ _ _); (k_dflt (refine' Nz.Ct.use2 (by k_asm) (Nz.ct_hereend _ _ _ _ _ _ _ _ _ _ _ (by with_reducible assumption) (by with_reducible assumption) (by omega)) (by k_asm) (by k_asm) (by k_asm) (by k_asm) (by first | exact rfl | assumption) (by ktr_room) (by ktr_units) ?_)); (unfold Nz.RI; intro _ _ _ _ _; (try dsimp only)))
  trivial
namespace Nz
def bodyT (rs : List (List Nat)) : List Nat := rs.flatMap fun r => r ++ [10]
theorem bodyT_step {rs : List (List Nat)} {r : List Nat} {i : Nat} (h : rs[i]? = some r) : bodyT (rs.take (i + 1)) = bodyT (rs.take i) ++ (r ++ [10]) := by
  rw [List.take_add_one, h]
  simp [bodyT]
theorem bodyT_len {rs : List (List Nat)} (h : ∀ r ∈ rs, r.length ≤ 100) (i : Nat) : (bodyT (rs.take i)).length ≤ 101 * rs.length := by
  have key : ∀ l : List (List Nat), (∀ r ∈ l, r.length ≤ 100) → (bodyT l).length ≤ 101 * l.length := by
    intro l
    induction l with
    | nil => intro _; simp [bodyT]
    | cons x r ih =>
      intro h
      have h1 := h x (.head _)
      have h2 := ih fun y hy => h y (.tail _ hy)
      have e : bodyT (x :: r) = (x ++ [10]) ++ bodyT r := by simp [bodyT]
      rw [e, List.length_append, List.length_append, List.length_singleton, List.length_cons]
      omega
  have := key (rs.take i) fun r hr => h r (List.mem_of_mem_take hr)
  rw [List.length_take] at this
  omega
def RBody (news : List (Addr × Obj)) (x : List Nat) (i : Nat) : RetT := fun h₀ L m s Q _ =>
  ∀ (a : Addr) (n : Nat) (u v : Tok) (h' : Heap) (tk' : Nat), Fr h₀ L h' m → News h₀ L h' ((a, tupO [.str (S x) u, .int (i : Nat) v] n) :: news) → (∀ p ∈ news, p.1 < a) → Q (.ref a) { s with heap := h', toks := tk' }
set_option maxHeartbeats 4000000 in
theorem ct_herebody (w mean mg mb news) (ls : Addr) (vs : List Value) (n : Nat) (rs : List (List Nat)) (t0 t1 : Tok) (hv : StrsAre vs ((rs ++ [[69]]).map S)) (hr : ∀ r ∈ rs, r ≠ [69]) (hw : ∀ r ∈ rs, r.length ≤ 100) (hl : rs.length ≤ 100) :
    Ct w mean mg mb 160 6 80 ((ls, listOf vs.toArray n) :: news) [.ref ls, .int 0 t0, .str (S [69]) t1, .bool false] (RBody ((ls, listOf vs.toArray n) :: news) (bodyT rs) (rs.length + 1)) := by
  intro dp un gd cn cs' a ccd cl outer A₀ base h₀ L m s Q E B F X N T hk hd hu hret
  have hx0 : (rs ++ [[69]])[rs.length]? = some [69] := by simp
  have hlen : (rs ++ [[69]]).length = rs.length + 1 := by simp
  have hlb : (rs ++ [[69]]).length ≤ 65536 := by omega
  walk_at "nz in"
  k_steps
  refine Hold.mk ?_
  rename Fr _ _ _ _ => lF
  rename News _ _ _ ((ls, listOf vs.toArray n) :: _) => lN
  rename IsRange _ _ _ _ _ _ _ _ => rg
  refine kst_range (σ := List Nat × Tok) (fun _ => (ls, listOf vs.toArray n) :: news) (fun c => [(Str.ofString "text", .str (S c.1) c.2)]) (fun _ => True) [Str.ofString "row"] (fun pre c => c.1 = bodyT (rs.take pre.length)) ([], _) (by rfl) rg (small_one (by omega) (by omega) (by omega) (by omega)) (rangeSize_nat _ _) lF lN trivial (by kst_all) (by simp [bodyT]) ?_ ?_
  · rintro ⟨tx, t3⟩ pre k t kU h tk own rfl hlt hoff _ hP kFr kNews
    clear lF lN
    dsimp only [kstB] at kFr
    (try dsimp only at kNews)
    have e0 : (0 : Int) + (pre.length : Int) = ((pre.length : Nat) : Int) := by omega
    rw [e0] at kFr
    have hP' : tx = bodyT (rs.take pre.length) := hP
    have hin : pre.length < rs.length := by omega
    obtain ⟨r, hx⟩ : ∃ r, rs[pre.length]? = some r := ⟨rs[pre.length], by simp⟩
    have hx2 : (rs ++ [[69]])[pre.length]? = some r := by rw [List.getElem?_append_left hin, hx]
    have hrw := hw r (List.mem_of_getElem? hx)
    have htl := bodyT_len hw pre.length
    rw [← hP'] at htl
    k_steps
    all_goals first
      | exact absurd (show List.take 0 r = (Str.ofString "").1.toList from rfl) (by assumption)
      | (rename Fr _ _ _ _ => eF
         rename News _ _ _ _ => eN
         refine Hold.mk ?_
         refine kst_end (_, _) eF eN (by intro p hp; simp at hp ⊢; rcases hp with hp | hp <;> simp [hp]) (by intro p hp; simp [hp]) rfl trivial (by kst_all) (by kst_same) ?_
         show _ = bodyT (rs.take (pre ++ [0 + (pre.length : Int)]).length)
         rw [List.length_append, List.length_singleton, bodyT_step hx, ← hP']
         first | rfl | simp)
  · rintro ⟨tx, t3⟩ kU h tk _ hP kFr kNews
    clear lF lN
    have hP' : tx = bodyT (rs.take (rangeKs 0 ((rs.length : Int) - 0).toNat).length) := hP
    have e1 : ((rs.length : Int) - 0).toNat = rs.length := by omega
    rw [rangeKs_length, e1, List.take_length] at hP'
    subst hP'
    dsimp only [kstB] at kFr
    k_steps
    rename News h₀ _ _ _ => kN
    rename _ ∧ AllLt _ _ => hlt1
    refine hret _ _ _ _ _ _ (by assumption) kN ?_
    intro p hp
    rcases List.mem_cons.mp hp with rfl | hp
    · exact hlt1.1
    · exact kst_ltOf hlt1.2 p hp
end Nz
theorem Nz.reg_p47h_here_2 : True := by
  k_with "call ref" => (k_here; (guard_target =~ wpAny _ _ (call (Value.ref 160) _) _ _ _); (k_dflt (refine' Nz.Ct.use2 (by k_asm) (Nz.ct_herebody _ _ _ _ _ _ _ _ _ _ _ (by with_reducible assumption) (by with_reducible assumption) (by with_reducible assumption) (by omega)) (by k_asm) (by k_asm) (by k_asm) (by k_asm) (by first | exact rfl | assumption) (by ktr_room) (by ktr_units) ?_)); (unfold Nz.RBody; intro _ _ _ _ _ _ _ _ l1; (try k_lt l1); (try dsimp only)))
  trivial
theorem Nz.reg_anew_p47h_here_0 : True := by
  k_with_none
  k_with "nz in" => (refine wpAny_call ?_; k_dflt ktr_enter)
  k_with "nz lit" => with_reducible first | exact Nz.lit_bs | exact Nz.lit_0 | exact Nz.lit_nl | exact Nz.lit_text | exact Nz.lit_x | exact Nz.lit_o | exact Nz.lit_lb | exact Nz.lit_rb | exact Nz.lit_N | exact Nz.lit_c | exact Nz.lit_dollar | exact Nz.lit_at | exact Nz.lit_dot | exact Nz.lit_E | exact Nz.lit_oct | exact Nz.lit_hex | exact Nz.lit_cases | exact Nz.lit_ul | exact Nz.lit_00 | exact Nz.lit_z | exact Nz.lit_bx | exact Nz.lit_bxb | exact Nz.lit_bob | exact Nz.lit_ops | exact Nz.lit_p1 | exact Nz.lit_p2 | exact Nz.lit_p3 | exact Nz.lit_p4 | exact Nz.lit_p5 | exact Nz.lit_p6 | exact Nz.lit_p7 | exact Nz.lit_p8
  k_with "nz sz" => first | with_reducible assumption | ((try simp only [List.length_cons, List.length_nil, List.length_append, List.length_take, List.length_drop, List.length_replicate]); omega)
  k_with "nz nat" => first | (with_reducible assumption) | (with_reducible exact rfl) | (with_reducible exact Nz.nz_c1 _ _) | (with_reducible exact Nz.nz_c0 _) | k_dflt (exact rfl)
  k_with "eval Constant str" => (k_here; (refine' Nz.nz_const (by walk_at "nz lit") ?_))
  k_with "nz slice" => (k_here; (with_reducible show wpAny _ _ (subscriptTail _ (Expr.Slice (some _) (some _) none _) (Value.str _ _) (Value.ref _)) _ _ _); (with_reducible rename Fr _ _ _ _ => F'); (with_reducible rename News _ _ _ _ => N'); first
     | ((with_reducible refine' Nz.nz_sliceG (k := 1) (s := ⟨_, _, _, _, _⟩) F' N' (by walk_at "nz nat") (by k_dflt (exact rfl)) (by k_dflt (walk_at "nz sz")) ?_ (by k_dflt (with_unfolding_all rfl)) (by k_dflt (intro _; with_unfolding_all rfl))); k_whole; intro _ _ _ _ _ _ hY; first
         | (cases Nz.take1K (by with_reducible assumption) hY; clear hY)
         | ((refine' Exists.elim (Nz.take1L hY (by k_dflt (walk_at "nz sz"))) ?_); clear hY; rintro _ ⟨_, e1⟩; subst e1)
         | (rcases Nz.take1C hY with ⟨_, _, _, e1⟩ | ⟨_, e1⟩ <;> subst e1 <;> clear hY))
     | ((with_reducible refine' Nz.nz_sliceG (s := ⟨_, _, _, _, _⟩) F' N' (by walk_at "nz nat") (by walk_at "nz nat") (by k_dflt (walk_at "nz sz")) ?_ (by k_dflt (with_unfolding_all rfl)) (by k_dflt (intro _; with_unfolding_all rfl))); k_whole; intro _ _ _ _ _ _ hY; subst hY)
     | ((with_reducible refine' Nz.nz_slice_le (s := ⟨_, _, _, _, _⟩) F' N' (by k_dflt (walk_at "nz sz")) (by walk_at "nz nat") (by walk_at "nz nat") (by k_dflt (walk_at "nz sz")) ?_ (by k_dflt (with_unfolding_all rfl)) (by k_dflt (intro _; with_unfolding_all rfl))); k_whole; intro _ _ _ _ _))
  k_with "nz sliceto" => (k_here; (with_reducible show wpAny _ _ (subscriptTail _ (Expr.Slice none (some _) none _) (Value.str _ _) (Value.ref _)) _ _ _); (with_reducible rename Fr _ _ _ _ => F'); (with_reducible rename News _ _ _ _ => N'); ((with_reducible refine' Nz.nz_slice_to (s := ⟨_, _, _, _, _⟩) F' N' (by walk_at "nz nat") (by k_dflt (walk_at "nz sz")) ?_ (by k_dflt (with_unfolding_all rfl)) (by k_dflt (intro _; with_unfolding_all rfl))); k_whole; intro _ _ _ _ _))
  k_with "subscriptTail Name Slice str ref" => walk_at "nz sliceto"
  k_with "call builtin:str.lower" => (k_here; first | ((with_reducible refine' Nz.nz_lower (by with_reducible assumption) (by k_dflt (walk_at "nz sz")) ?_); intro _) | refine Nz.Hold.out ?_)
  k_with "call builtin:str.find" => (k_here; first | ((with_reducible refine' Nz.nz_find (by first | walk_at "nz lit" | exact rfl) (by with_reducible assumption) ?_); intro _) | ((with_reducible refine' Nz.nz_find3 (by walk_at "nz nat") (by k_dflt (walk_at "nz sz")) (by with_reducible assumption) (by with_reducible assumption) ?_); intro _) | refine Nz.Hold.out ?_)
  k_with "nz item" => (k_here; (with_reducible show wpAny _ _ (subscriptTail _ _ (Value.str _ _) (Value.int _ _)) _ _ _); first
     | ((with_reducible refine' Nz.nz_itemK (by k_dflt (walk_at "nz sz")) (by walk_at "nz nat") (by with_reducible assumption) ?_ (by k_dflt (with_unfolding_all rfl)) (by k_dflt (intro _; with_unfolding_all rfl))); k_whole)
     | ((with_reducible refine' Nz.nz_item (by k_dflt (walk_at "nz sz")) (by walk_at "nz nat") (by k_dflt (walk_at "nz sz")) ?_ (by k_dflt (with_unfolding_all rfl)) (by k_dflt (intro _; with_unfolding_all rfl))); k_whole; intro _ _))
  k_with "subscriptTail Name Slice str ref" => walk_at "nz slice"
  k_with "subscriptTail" => walk_at "nz item"
  k_with "subscriptTail Name Name str int" => walk_at "nz item"
  k_with "subscriptTail Name BinOp str int" => walk_at "nz item"
  k_with "subscriptTail Name Constant str int" => walk_at "nz item"
  k_with "call builtin:len" => (k_here; (with_reducible show wpAny _ _ (call (Value.builtin _) [Value.str _ _]) _ _ _); (refine' Nz.nz_len (by walk_at "nz sz") ?_))
  k_with "compareOp Eq str str" => (k_here; first | refine Nz.nz_eq1 ?_ | refine Nz.nz_eq10 ?_ | refine Nz.nz_eq00 ?_ | refine Nz.nz_eq01 ?_ | refine Nz.nz_eq ?_)
  k_with "compareOp NotEq str str" => (k_here; first | refine Nz.nz_ne1 ?_ | refine Nz.nz_ne10 ?_ | refine Nz.nz_ne00 ?_ | refine Nz.nz_ne01 ?_ | refine Nz.nz_ne ?_)
  k_with "compareOp In str str" => (k_here; first | ((with_reducible refine' Nz.nz_inF (by with_reducible assumption) ?_)) | ((with_reducible refine' Nz.nz_inT (by with_reducible assumption) ?_)) | refine Nz.nz_in ?_)
  k_with "binaryOp Add str str" => (k_here; first | ((with_reducible refine' Nz.nz_add (by k_dflt (walk_at "nz sz")) ?_); intro _ _) | refine Nz.Hold.out ?_)
  k_with "inplaceOp Add str str" => (k_here; first | ((with_reducible refine' Nz.nz_iadd (by k_dflt (walk_at "nz sz")) ?_); intro _ _) | refine Nz.Hold.out ?_)
  k_with "exec While Compare cons nil" => (k_here; refine Nz.Hold.out ?_)
  k_with "exec While BoolOp cons nil" => (k_here; refine Nz.Hold.out ?_)
  k_with "nz end" => ((rename Fr _ _ _ _ => eF); (rename News _ _ _ _ => eN); (refine Nz.Hold.mk ?_); first
     | (refine' ksw_end (_, _, _, _) eF eN (fun _ h => h) trivial (by kst_all) (by ksw_same) ?kp ?km))
  k_with "exec For Name Name cons nil" => (k_here; (rename Fr _ _ _ _ => lF'); k_dflt (with_unfolding_all refine' For_invVF lF' (by exact rfl) (by exact rfl) ?_; k_whole))
  k_with "exec For Name Call cons nil" => (k_here; (rename Fr _ _ _ _ => lF'); k_dflt (with_unfolding_all refine' For_invVF lF' (by exact rfl) (by exact rfl) ?_; k_whole))
  k_with "nz tabitem" => (k_here; (with_reducible show wpAny _ _ (subscriptTail _ _ (Value.ref _) (Value.str _ _)) _ _ _); (try kt_k); k_dflt (refine' item_strTab (by kt_ktab) (by with_reducible assumption) ?_; k_whole); intro _ hv'; (refine' Exists.elim (PyProof.V.Flat.str_inv hv') ?_); intro tv ev; subst ev; clear hv')
  k_with "compareOp In str ref" => (k_here; (try kt_k); k_dflt (refine' Nz.nz_inTab (by with_reducible assumption) (by kt_ktab) ?_; k_whole); intro _; (try dsimp only [Option.isSome]))
  k_with "subscriptTail" => walk_at "nz tabitem"
  k_with "getItem ref str" => (k_here; k_dflt (refine' getItem_tab PyProof.V.same_str (strKind_is _ _ _ _) (by k_tabat) (by with_reducible assumption) ?_; k_whole); intro _ hv'; (refine' Exists.elim (PyProof.V.Flat.str_inv hv') ?_); intro tv ev; subst ev; clear hv')
  k_with "nz slicelast" => (k_here; (with_reducible show wpAny _ _ (subscriptTail _ (Expr.Slice (some _) none none _) (Value.str _ _) (Value.ref _)) _ _ _); (with_reducible rename Fr _ _ _ _ => F'); (with_reducible rename News _ _ _ _ => N'); ((with_reducible refine' Nz.nz_slice_last (s := ⟨_, _, _, _, _⟩) F' N' (by k_dflt (exact rfl)) (by decide) (by k_dflt (walk_at "nz sz")) ?_ (by k_dflt (with_unfolding_all rfl)) (by k_dflt (intro _; with_unfolding_all rfl))); k_whole; intro _ _ _ _ _))
  k_with "subscriptTail BinOp" => walk_at "nz slicelast"
  k_with "InvEndN" => refine Nz.Hold.out ?_
  k_with "InvEndG" => refine Nz.Hold.out ?_
  k_with "pyIter str" => (k_here; refine Nz.Hold.out ?_)
  k_with "pyIter ref" => (k_here; refine Nz.Hold.out ?_)
  k_with "KswEnd" => refine Nz.Hold.out ?_
  k_with "call ref" => (k_here; (with_reducible show wpAny _ (Around.deeper callerA _) _ _ _ _); refine Nz.Hold.out ?_)
  k_with "call ref" => (k_here; (guard_target =~ wpAny _ _ (call (Value.ref 62) _) _ _ _); (k_dflt (refine' Nz.Ct.use (Nz.ct_closer _ _ _ _ _ _ _) (by k_asm) (by k_asm) (by k_asm) (by k_asm) (by k_asm) (by first | exact rfl | assumption) (by ktr_room) (by ktr_units) ?_)); (unfold Nz.RS; intro _ _ _ _ _; (try dsimp only)))
  k_with "call ref" => (k_here; (guard_target =~ wpAny _ _ (call (Value.ref 76) _) _ _ _); (k_dflt (refine' Nz.Ct.use (Nz.ct_delimited _ _ _ _ _ _ _ _ _ _ _ (by (walk_at "nz sz")) (by assumption) (by assumption)) (by k_asm) (by k_asm) (by k_asm) (by k_asm) (by k_asm) (by first | exact rfl | assumption) (by ktr_room) (by ktr_units) ?_)); (unfold Nz.RDel; intro _ _ _ _ _ _ _ _ l1; (try k_lt l1); (try dsimp only)))
  k_with "call ref" => (k_here; (guard_target =~ wpAny _ _ (call (Value.ref 83) _) _ _ _); (k_dflt (refine' Nz.Ct.use (Nz.ct_unguarded _ _ _ _ _ _ _ _ _ _ (by (walk_at "nz sz"))) (by k_asm) (by k_asm) (by k_asm) (by k_asm) (by k_asm) (by first | exact rfl | assumption) (by ktr_room) (by ktr_units) ?_)); (unfold Nz.RS; intro _ _ _ _ _; (try dsimp only)))
  k_with "call ref" => (k_here; (guard_target =~ wpAny _ _ (call (Value.ref 97) _) _ _ _); (k_dflt (refine' Nz.Ct.use (Nz.ct_digits _ _ _ _ _ _ _ _ _ _ _ _ _ _ (by (walk_at "nz nat")) (by (walk_at "nz nat")) (by (walk_at "nz nat")) (by (walk_at "nz sz")) (by assumption) (by assumption) (by omega) (by omega) (by assumption) (by omega) (by omega)) (by k_asm) (by k_asm) (by k_asm) (by k_asm) (by k_asm) (by first | exact rfl | assumption) (by ktr_room) (by ktr_units) ?_)); (unfold Nz.RTup2; intro _ _ _ _ _ _ _ _ l1; (try k_lt l1); (try dsimp only)))
  k_with "call ref" => (k_here; (guard_target =~ wpAny _ _ (call (Value.ref 104) _) _ _ _); (k_dflt (refine' Nz.Ct.use (Nz.ct_coded _ _ _ _ _ _ _ (by omega)) (by k_asm) (by k_asm) (by k_asm) (by k_asm) (by k_asm) (by first | exact rfl | assumption) (by ktr_room) (by ktr_units) ?_)); (unfold Nz.RS; intro _ _ _ _ _; (try dsimp only)))
  k_with "call ref" => (k_here; (guard_target =~ wpAny _ _ (call (Value.ref 69) _) _ _ _); (k_dflt (refine' Nz.Ct.use (Nz.ct_line _ _ _ _ _ _ _ _ _ (by (walk_at "nz sz"))) (by k_asm) (by k_asm) (by k_asm) (by k_asm) (by k_asm) (by first | exact rfl | assumption) (by ktr_room) (by ktr_units) ?_)); (unfold Nz.RI; intro _ _ _ _ _; (try dsimp only)))
  k_with "call ref" => (k_here; (guard_target =~ wpAny _ _ (call (Value.ref 111) _) _ _ _); (k_dflt (refine' Nz.Ct.use (Nz.ct_braced _ _ _ _ _ _ _ _ _ _ _ _ _ (by (walk_at "nz nat")) (by (walk_at "nz nat")) (by (walk_at "nz sz")) (by assumption) (by assumption) (by assumption) (by assumption) (by assumption) (by decide) (by decide) (by assumption)) (by k_asm) (by k_asm) (by k_asm) (by k_asm) (by k_asm) (by first | exact rfl | assumption) (by ktr_room) (by ktr_units) ?_)); (unfold Nz.RTup2; intro _ _ _ _ _ _ _ _ l1; (try k_lt l1); (try dsimp only)))
  k_with "call ref" => (k_here; (guard_target =~ wpAny _ _ (call (Value.ref 118) _) _ _ _); (k_dflt (refine' Nz.Ct.use (Nz.ct_escok _ _ _ (by (walk_at "nz nat")) (by assumption)) (by k_asm) (by k_asm) (by k_asm) (by k_asm) (by k_asm) (by first | exact rfl | assumption) (by ktr_room) (by ktr_units) ?_)); (unfold Nz.RTup2; intro _ _ _ _ _ _ _ _ l1; (try k_lt l1); (try dsimp only)))
  k_with "call ref" => (k_here; (guard_target =~ wpAny _ _ (call (Value.ref 279) _) _ _ _); (k_dflt (refine' Nz.Ct.use (Nz.ct_take_esc _ _ _ _ _ _ _ _ _ _ _ _ _ _ (by (walk_at "nz nat")) (by with_reducible assumption) (by with_reducible assumption) (by with_reducible assumption) (by with_reducible assumption) (by with_reducible assumption)) (by k_asm) (by k_asm) (by k_asm) (by k_asm) (by k_asm) (by first | exact rfl | assumption) (by ktr_room) (by ktr_units) ?_)); (unfold Nz.RTake; intro _ _ _ _ hStk _ _; (try dsimp only)))
  k_with "call ref" => (k_here; (guard_target =~ wpAny _ _ (call (Value.ref 279) _) _ _ _); (k_dflt (refine' Nz.Ct.use (Nz.ct_take_plain _ _ _ _ _ _ _ _ _ _ _ _ _ (by (walk_at "nz nat")) (by with_reducible assumption) (by with_reducible assumption) (by with_reducible assumption) (by with_reducible assumption) (by with_reducible assumption) (by with_reducible assumption) (by with_reducible assumption)) (by k_asm) (by k_asm) (by k_asm) (by k_asm) (by k_asm) (by first | exact rfl | assumption) (by ktr_room) (by ktr_units) ?_)); (unfold Nz.RTake; intro _ _ _ _ hStk _ _; (try dsimp only)))
  k_with "call ref" => (k_here; (guard_target =~ wpAny _ _ (call (Value.ref 286) _) _ _ _); (k_dflt (refine' Nz.Ct.use (Nz.ct_parts _ _ _ _ _ _ _ _ (by (walk_at "nz sz")) (by assumption)) (by k_asm) (by k_asm) (by k_asm) (by k_asm) (by k_asm) (by first | exact rfl | assumption) (by ktr_room) (by ktr_units) ?_)); (unfold Nz.RParts; refine' ⟨fun hE _ _ _ _ _ _ l1 => ?_, fun hE _ _ _ _ _ _ _ _ _ _ l1 l2 => ?_⟩ <;> ((try k_lt l1); (try k_lt2 l2); (try dsimp only))))
  k_with "call ref" => (k_here; (guard_target =~ wpAny _ _ (call (Value.ref 90) _) _ _ _); (k_dflt (refine' Nz.Ct.use (Nz.ct_readq _ _ _ _ _ _ _ _ _ (by (walk_at "nz sz"))) (by k_asm) (by k_asm) (by k_asm) (by k_asm) (by k_asm) (by first | exact rfl | assumption) (by ktr_room) (by ktr_units) ?_)); (unfold Nz.RS; intro _ _ _ _ _; (try dsimp only)))
  k_with "call ref" => (k_here; (guard_target =~ wpAny _ _ (call (Value.ref 308) _) _ _ _); (k_dflt (refine' Nz.Ct.use2 (by k_asm) (Nz.ct_take _ _ _ _ _ _ _ _ _ _ _ _ _ _ _ (by (walk_at "nz nat")) (by with_reducible assumption) (by (first | with_reducible assumption | omega)) (by (first | omega | exact Nat.zero_le _ | decide)) (by (first | decide | omega)) (by (first | decide | omega)) (by (first | with_reducible assumption | omega)) (by (first | with_reducible assumption | walk_at "nz ne")) (by (first | with_reducible assumption | exact rfl))) (by k_asm) (by k_asm) (by k_asm) (by k_asm) (by first | exact rfl | assumption) (by ktr_room) (by ktr_units) ?_)); (unfold Nz.RTape; intro _ _ _ _ _ _ _; (try dsimp only)))
  k_with "call ref" => (k_here; (guard_target =~ wpAny _ _ (call (Value.ref 300) _) _ _ _); (k_dflt (refine' Nz.Ct.use (Nz.ct_ends _ _ _ _ _) (by k_asm) (by k_asm) (by k_asm) (by k_asm) (by k_asm) (by first | exact rfl | assumption) (by ktr_room) (by ktr_units) ?_)); (unfold Nz.RDict; intro _ _ _ _ _ _ _ l1 _ _ _; (try k_lt l1); (try dsimp only)))
  k_with "call ref" => (k_here; (guard_target =~ wpAny _ _ (call (Value.ref 315) _) _ _ _); (k_dflt (refine' Nz.Ct.use (Nz.ct_based _ _ _ _ _ _ _ _ _ (by (walk_at "nz nat")) (by (first | with_reducible assumption | omega)) (by (first | exact .inl rfl | exact .inr rfl))) (by k_asm) (by k_asm) (by k_asm) (by k_asm) (by k_asm) (by first | exact rfl | assumption) (by ktr_room) (by ktr_units) ?_)); (unfold Nz.RS; intro _ _ _ _ _; (try dsimp only)))
  k_with "call ref" => (k_here; (guard_target =~ wpAny _ _ (call (Value.ref 322) _) _ _ _); (k_dflt (refine' Nz.Ct.use (Nz.ct_inq _ _ _ _ _ _ _ _ _ _ (by (first | with_reducible assumption | omega)) (by with_reducible assumption) (by exact rfl)) (by k_asm) (by k_asm) (by k_asm) (by k_asm) (by k_asm) (by first | exact rfl | assumption) (by ktr_room) (by ktr_units) ?_)); (unfold Nz.RS; intro _ _ _ _ _; (try dsimp only)))
  k_with "call ref" => (k_here; (guard_target =~ wpAny _ _ (call (Value.ref 28) _) _ _ _); (k_dflt (refine' Nz.Ct.use (Nz.ct_init28 _ _ _ _ ?_ ?_ ?_ ?_ ?_ (by with_reducible assumption)) (by k_asm) (by k_asm) (by k_asm) (by k_asm) (by k_asm) (by first | exact rfl | assumption) (by ktr_room) (by ktr_units) ?_)); intro _ _ _ _ _ _ _ _ _)
  k_with "call ref" => (k_here; (guard_target =~ wpAny _ _ (call (Value.ref 48) _) _ _ _); (k_dflt (refine' Nz.Ct.use (Nz.ct_init48 _ _ _ _ ?_ ?_ ?_ ?_ ?_ ?_ ?_ (by with_reducible assumption)) (by k_asm) (by k_asm) (by k_asm) (by k_asm) (by k_asm) (by first | exact rfl | assumption) (by ktr_room) (by ktr_units) ?_)); intro _ _ _ _ _ _ _ _ _)
  k_with "call ref" => (k_here; (guard_target =~ wpAny _ _ (call (Value.ref 153) _) _ _ _); (k_dflt (refine' Nz.Ct.use2 (by k_asm) (Nz.ct_hereend _ _ _ _ _ _ _ _ _ _ _ (by with_reducible assumption) (by with_reducible assumption) (by omega)) (by k_asm) (by k_asm) (by k_asm) (by k_asm) (by first | exact rfl | assumption) (by ktr_room) (by ktr_units) ?_)); (unfold Nz.RI; intro _ _ _ _ _; (try dsimp only)))
  k_with "call ref" => (k_here; (guard_target =~ wpAny _ _ (call (Value.ref 160) _) _ _ _); (k_dflt (refine' Nz.Ct.use2 (by k_asm) (Nz.ct_herebody _ _ _ _ _ _ _ _ _ _ _ (by with_reducible assumption) (by with_reducible assumption) (by with_reducible assumption) (by omega)) (by k_asm) (by k_asm) (by k_asm) (by k_asm) (by first | exact rfl | assumption) (by ktr_room) (by ktr_units) ?_)); (unfold Nz.RBody; intro _ _ _ _ _ _ _ _ l1; (try k_lt l1); (try dsimp only)))
  trivial
namespace Nz
def RDel2 (news : List (Addr × Obj)) (inn : List Nat) (e1 : Nat) : RetT := fun h₀ L m s Q _ =>
  ∀ (a : Addr) (n : Nat) (u v : Tok) (h' : Heap) (tk' : Nat), Fr h₀ L h' m → News h₀ L h' ((a, tupO [.str (S inn) u, .int (e1 : Nat) v] n) :: news) → (∀ p ∈ news, p.1 < a) → Q (.ref a) { s with heap := h', toks := tk' }
theorem ct_delimited2 (w mean mg mb news) (l : List Nat) (t : Tok) (k : Nat) (u : Tok) (o : Nat) (e : Nat) {inn : List Nat} {e1 : Nat} (hl : l.length ≤ 1000) (hko : l[k]? = some o) (hR : delimR o (closerN o) (l.drop (k + 1)) 1 (k + 1) = some e)
    (hin : (l.drop (k + 1)).take (e - (k + 1)) = inn) (he : e + 1 = e1) : Ct w mean mg mb 76 2 16 news [.str (S l) t, .int k u] (RDel2 news inn e1) := by
  subst hin he
  exact ct_delimited w mean mg mb news l t k u o e hl hko hR
theorem ct_readq2 (w mean mg mb news) (l : List Nat) (t : Tok) (o : Nat) (u : Tok) {r : List Nat} (hl : l.length ≤ 1000) (hr : ungR o (closerN o) true l = r) : Ct w mean mg mb 90 4 40 news [.str (S l) t, .str (S [o]) u] (RS news (S r)) := by
  subst hr
  exact ct_readq w mean mg mb news l t o u hl
theorem ct_line2 (w mean mg mb news) (l : List Nat) (t : Tok) (k : Nat) (u : Tok) {r : List Nat} (hl : l.length ≤ 1000) (hr : l.take k = r) : Ct w mean mg mb 69 2 16 news [.str (S l) t, .int k u] (RI news (1 + Txt.count (S r) (S [10]))) := by
  subst hr
  exact ct_line w mean mg mb news l t k u hl
section
variable {prog : Program} {w : World} {A : Around} {E : Value → Shared → Prop} {s : Shared} {t u : Tok} {Q : Value → Shared → Prop} {a : List Nat} {i j : Int}
theorem nz_neS (h : Q (.bool false) s) : wpAny (model prog w) A (compareOp .NotEq (.str (S a) t) (.str (S a) u)) Q E s := nz_ne (by simpa using h)
theorem nz_neE1 (e : a = []) (h : Q (.bool false) s) : wpAny (model prog w) A (compareOp .NotEq (.str (S a) t) (.str (S []) u)) Q E s := nz_ne (by simpa [e] using h)
theorem nz_neE2 (e : a ≠ []) (h : Q (.bool true) s) : wpAny (model prog w) A (compareOp .NotEq (.str (S a) t) (.str (S []) u)) Q E s := nz_ne (by simpa [e] using h)
theorem nz_neI (e : i = j) (h : Q (.bool false) s) : wpAny (model prog w) A (compareOp .NotEq (.int i t) (.int j u)) Q E s := by
  subst e
  exact ne_int (by simpa using h)
theorem strOk_S {l : List Nat} (h : ∀ c ∈ l, c ≤ 100000) : PyData.strOk (S l) = true := by
  show l.toArray.all (fun x => decide (x < 1114112)) = true
  simp only [List.all_toArray, List.all_eq_true, decide_eq_true_eq]
  intro c hc
  have := h c hc
  omega
theorem parts_ne {h₀ : Heap} {L l1 t1 l2 t2 : Addr} {n1 n2 n3 n4 : Nat} {a b : List Nat} {u1 u2 u3 u4 : Tok} {news : List (Addr × Obj)} (N : News h₀ L s.heap news) (m1 : (l1, listOf #[.ref t1] n1) ∈ news) (m2 : (t1, tupO [.str (S a) u1, .str (S b) u2] n2) ∈ news)
    (m3 : (l2, listOf #[.ref t2] n3) ∈ news) (m4 : (t2, tupO [.str (S a) u3, .str (S b) u4] n4) ∈ news) (ha : ∀ c ∈ a, c ≤ 100000) (hb : ∀ c ∈ b, c ≤ 100000) (hu : A.units + 64 < cLine) (h : Q (.bool false) s) : wpAny (model prog w) A (compareOp .NotEq (.ref l1) (.ref l2)) Q E s := by
  have r1 : Reads s.heap (.ref l1) (.list [.tuple [.str (S a), .str (S b)]]) _ := reads_list_at (News.get N m1) rfl rfl (ReadsAll.cons (reads_tuple_at (News.get N m2) rfl rfl (ReadsAll.cons (Reads.str _ _) (ReadsAll.cons (Reads.str _ _) ReadsAll.nil))) ReadsAll.nil)
  have r2 : Reads s.heap (.ref l2) (.list [.tuple [.str (S a), .str (S b)]]) _ := reads_list_at (News.get N m3) rfl rfl (ReadsAll.cons (reads_tuple_at (News.get N m4) rfl rfl (ReadsAll.cons (Reads.str _ _) (ReadsAll.cons (Reads.str _ _) ReadsAll.nil))) ReadsAll.nil)
  have sh : SeqAt.shaped (.list [.tuple [.str (S a), .str (S b)]]) = true := by
    simp only [SeqAt.shaped, PyData.canLay0, PyData.canLayAll0, PyData.depth, PyData.depthAll, strOk_S ha, strOk_S hb]
    rfl
  refine ne_dataH r1 r2 sh sh hu ?_
  simpa [PyData.eqv, PyData.eqvAll] using h
theorem tup_eq {h₀ : Heap} {L t1 t2 : Addr} {n1 n2 : Nat} {a : List Nat} {i j : Int} {u1 u2 u3 u4 : Tok} {news : List (Addr × Obj)} (N : News h₀ L s.heap news) (m1 : (t1, tupO [.str (S a) u1, .int i u2] n1) ∈ news)
    (m2 : (t2, tupO [.str (S a) u3, .int j u4] n2) ∈ news) (hij : i = j) (ha : ∀ c ∈ a, c ≤ 100000) (hu : A.units + 64 < cLine) (h : Q (.bool true) s) : wpAny (model prog w) A (compareOp .Eq (.ref t1) (.ref t2)) Q E s := by
  subst hij
  have r1 : Reads s.heap (.ref t1) (.tuple [.str (S a), .int i]) _ := reads_tuple_at (News.get N m1) rfl rfl (ReadsAll.cons (Reads.str _ _) (ReadsAll.cons (Reads.int _ _) ReadsAll.nil))
  have r2 : Reads s.heap (.ref t2) (.tuple [.str (S a), .int i]) _ := reads_tuple_at (News.get N m2) rfl rfl (ReadsAll.cons (Reads.str _ _) (ReadsAll.cons (Reads.int _ _) ReadsAll.nil))
  have sh : SeqAt.shaped (.tuple [.str (S a), .int i]) = true := by
    simp only [SeqAt.shaped, PyData.canLay0, PyData.canLayAll0, PyData.depth, PyData.depthAll, strOk_S ha]
    rfl
  refine eq_dataH r1 r2 sh sh hu ?_
  simpa [PyData.eqv, PyData.eqvAll] using h
end
end Nz
theorem Nz.reg_p49_lawct_0 : True := by
  k_with "call ref" => (k_here; (guard_target =~ wpAny _ _ (call (Value.ref 76) _) _ _ _); (k_dflt (refine' Nz.Ct.use (Nz.ct_delimited2 _ _ _ _ _ _ _ _ _ _ _ (by (walk_at "nz sz")) (by with_reducible assumption) (by with_reducible assumption) (by with_reducible assumption) (by with_reducible assumption)) (by k_asm) (by k_asm) (by k_asm) (by k_asm) (by k_asm) (by first | exact rfl | assumption) (by ktr_room) (by ktr_units) ?_)); (unfold Nz.RDel2; intro _ _ _ _ _ _ _ _ l1; (try k_lt l1); (try dsimp only)))
  k_with "call ref" => (k_here; (guard_target =~ wpAny _ _ (call (Value.ref 90) _) _ _ _); (k_dflt (refine' Nz.Ct.use (Nz.ct_readq2 _ _ _ _ _ _ _ _ _ (by (walk_at "nz sz")) (by with_reducible assumption)) (by k_asm) (by k_asm) (by k_asm) (by k_asm) (by k_asm) (by first | exact rfl | assumption) (by ktr_room) (by ktr_units) ?_)); (unfold Nz.RS; intro _ _ _ _ _; (try dsimp only)))
  k_with "call ref" => (k_here; (guard_target =~ wpAny _ _ (call (Value.ref 69) _) _ _ _); (k_dflt (refine' Nz.Ct.use (Nz.ct_line2 _ _ _ _ _ _ _ _ _ (by (walk_at "nz sz")) (by with_reducible assumption)) (by k_asm) (by k_asm) (by k_asm) (by k_asm) (by k_asm) (by first | exact rfl | assumption) (by ktr_room) (by ktr_units) ?_)); (unfold Nz.RI; intro _ _ _ _ _; (try dsimp only)))
  k_with "call ref" => (k_here; (guard_target =~ wpAny _ _ (call (Value.ref 329) _) _ _ _); (k_dflt (refine' Nz.Ct.use2 (by k_asm) (Nz.ct_inqq _ _ _ _ _ _ _ _ _ _ _ _ _ _ _ _ _ (by with_reducible assumption) (by (first | with_reducible assumption | omega)) (by omega) (by (first | with_reducible assumption | omega)) (by with_reducible assumption) (by (first | with_reducible assumption | omega)) (by with_reducible assumption) (by with_reducible assumption)) (by k_asm) (by k_asm) (by k_asm) (by k_asm) (by first | exact rfl | assumption) (by ktr_room) (by ktr_units) ?_)); (unfold Nz.RTapeS; intro _ _ _ _ _ _ _; (try dsimp only)))
  k_with "call ref" => (k_here; (guard_target =~ wpAny _ _ (call (Value.ref 293) _) _ _ _); (k_dflt (refine' Nz.Ct.use (Nz.ct_plain _ _ _ _ _ _ _ _ (by (walk_at "nz sz")) (by with_reducible assumption)) (by k_asm) (by k_asm) (by k_asm) (by k_asm) (by k_asm) (by first | exact rfl | assumption) (by ktr_room) (by ktr_units) ?_)); (unfold Nz.RS; intro _ _ _ _ _; (try dsimp only)))
  trivial
namespace Nz
theorem joinN_mem (sep : List Nat) : ∀ rs : List (List Nat), ∀ r ∈ rs, ∀ c ∈ r, c ∈ joinN sep rs := by
  intro rs
  induction rs with
  | nil => intro r hr; cases hr
  | cons x l ih =>
    intro r hr c hc
    cases l with
    | nil =>
      rcases List.mem_cons.mp hr with rfl | h
      · exact hc
      · cases h
    | cons y l =>
      show c ∈ x ++ sep ++ joinN sep (y :: l)
      rcases List.mem_cons.mp hr with rfl | h
      · exact List.mem_append_left _ (List.mem_append_left _ hc)
      · exact List.mem_append_right _ (ih r h c hc)
theorem joinN_len (sep : List Nat) : ∀ rs : List (List Nat), ∀ r ∈ rs, r.length ≤ (joinN sep rs).length := by
  intro rs
  induction rs with
  | nil => intro r hr; cases hr
  | cons x l ih =>
    intro r hr
    cases l with
    | nil =>
      rcases List.mem_cons.mp hr with rfl | h
      · exact Nat.le_refl _
      · cases h
    | cons y l =>
      show r.length ≤ (x ++ sep ++ joinN sep (y :: l)).length
      rw [List.length_append, List.length_append]
      rcases List.mem_cons.mp hr with rfl | h
      · omega
      · have := ih r h
        omega
theorem joinN_count (s : Nat) : ∀ rs : List (List Nat), rs.length ≤ (joinN [s] rs).length + 1 := by
  intro rs
  induction rs with
  | nil => exact Nat.zero_le _
  | cons x l ih =>
    cases l with
    | nil => rw [List.length_singleton]; omega
    | cons y l =>
      show (x :: y :: l).length ≤ (x ++ [s] ++ joinN [s] (y :: l)).length + 1
      rw [List.length_append, List.length_append, List.length_singleton, List.length_cons]
      omega
theorem body_join : ∀ rs : List (List Nat), rs ≠ [] → joinN [10] rs ++ [10] = bodyT rs := by
  intro rs
  induction rs with
  | nil => intro h; exact absurd rfl h
  | cons x l ih =>
    intro _
    cases l with
    | nil => simp [joinN, bodyT]
    | cons y l =>
      have h := ih (List.cons_ne_nil _ _)
      show x ++ [10] ++ joinN [10] (y :: l) ++ [10] = bodyT (x :: y :: l)
      rw [List.append_assoc, h]
      simp [bodyT]
def rowsOf (tx : List Nat) : List (List Nat) := (PySem.Txt.split (S tx) (S [10])).map fun x => x.cps.toList
theorem S_of (x : PySem.Str) : S x.cps.toList = x := by
  cases x
  rfl
theorem rowsOf_S (tx : List Nat) : PySem.Txt.split (S tx) (S [10]) = (rowsOf tx).map S := by
  unfold rowsOf
  rw [List.map_map]
  have : (S ∘ fun x : PySem.Str => x.cps.toList) = id := funext S_of
  rw [this, List.map_id]
theorem rowsOf_ne (tx : List Nat) : rowsOf tx ≠ [] := by
  unfold rowsOf PySem.Txt.split
  split
  · exact List.cons_ne_nil _ _
  · split
    · exact List.cons_ne_nil _ _
    · intro h
      have h2 := congrArg List.length h
      rw [List.length_map, length_partsBetween] at h2
      cases h2
theorem rowsOf_join (tx : List Nat) : joinN [10] (rowsOf tx) = tx := by
  have h := PySem.StrLaws.join_split (S tx) (S [10])
  rw [rowsOf_S, ← PySem.StrLaws.glued_eq_join] at h
  have e : PySem.Txt.join (S [10]) ((rowsOf tx).map S) = S tx := h
  rw [join_S] at e
  have e2 := congrArg (fun x : PySem.Str => x.cps.toList) e
  simpa using e2
def dots (tx : List Nat) : List (List Nat) := (rowsOf tx).map fun r => r ++ [46]
theorem dots_len (tx : List Nat) : (dots tx).length = (rowsOf tx).length := by unfold dots; rw [List.length_map]
theorem rowsOf_len (tx : List Nat) : (rowsOf tx).length ≤ tx.length + 1 := by
  have := joinN_count 10 (rowsOf tx)
  rw [rowsOf_join] at this
  exact this
theorem rowsOf_short (tx : List Nat) : ∀ r ∈ rowsOf tx, r.length ≤ tx.length := by
  intro r hr
  have := joinN_len [10] (rowsOf tx) r hr
  rw [rowsOf_join] at this
  exact this
theorem rowsOf_mem (tx : List Nat) : ∀ r ∈ rowsOf tx, ∀ c ∈ r, c ∈ tx := by
  intro r hr c hc
  have := joinN_mem [10] (rowsOf tx) r hr c hc
  rw [rowsOf_join] at this
  exact this
theorem sumlen : ∀ rs : List (List Nat), (∀ r ∈ rs, r.length ≤ 100) → ((rs.map S).map (·.length)).sum ≤ 100 * rs.length := by
  intro rs
  induction rs with
  | nil => intro _; exact Nat.zero_le _
  | cons x l ih =>
    intro h
    have h1 := h x (.head _)
    have h2 := ih fun y hy => h y (.tail _ hy)
    simp only [List.map_cons, List.sum_cons, S_length, List.length_cons]
    omega
theorem joinlen (s : Nat) : ∀ rs : List (List Nat), (∀ r ∈ rs, r.length ≤ 100) → (joinN [s] rs).length ≤ 101 * rs.length := by
  intro rs
  induction rs with
  | nil => intro _; exact Nat.zero_le _
  | cons x l ih =>
    intro h
    have h1 := h x (.head _)
    have h2 := ih fun y hy => h y (.tail _ hy)
    cases l with
    | nil => rw [List.length_singleton]; show x.length ≤ _; omega
    | cons y l =>
      show (x ++ [s] ++ joinN [s] (y :: l)).length ≤ _
      rw [List.length_append, List.length_append, List.length_singleton, List.length_cons (a := x)]
      omega
theorem dots_facts {tx : List Nat} (hl : tx.length ≤ 14) (hx : ∀ c ∈ tx, c ≤ 100000) :
    (rowsOf tx).length ≤ 15 ∧ (dots tx).length ≤ 15 ∧ (∀ r ∈ dots tx, r ≠ [69]) ∧ (∀ r ∈ dots tx, r.length ≤ 100) ∧ (∀ c ∈ bodyT (dots tx), c ≤ 100000) ∧ ((dots tx).map S |>.map (·.length)).sum + (dots tx).length ≤ 1048576 ∧ (joinN [10] (dots tx)).length ≤ 1515 ∧ bodyT (dots tx) = joinN [10] (dots tx) ++ [10] := by
  have h1 : (rowsOf tx).length ≤ 15 := by have := rowsOf_len tx; omega
  have h2 : (dots tx).length ≤ 15 := by rw [dots_len]; exact h1
  have h4 : ∀ r ∈ dots tx, r.length ≤ 100 := by
    intro r hr
    obtain ⟨q, hq, rfl⟩ := List.mem_map.mp hr
    have := rowsOf_short tx q hq
    rw [List.length_append, List.length_singleton]
    omega
  refine ⟨h1, h2, ?_, h4, ?_, ?_, ?_, ?_⟩
  · intro r hr
    obtain ⟨q, hq, rfl⟩ := List.mem_map.mp hr
    intro e
    have e2 := congrArg List.getLast? e
    simp at e2
  · intro c hc
    obtain ⟨r, hr, hc⟩ := List.mem_flatMap.mp hc
    rcases List.mem_append.mp hc with hc | hc
    · obtain ⟨q, hq, rfl⟩ := List.mem_map.mp hr
      rcases List.mem_append.mp hc with hc | hc
      · exact hx c (rowsOf_mem tx q hq c hc)
      · rw [List.mem_singleton.mp hc]; decide
    · rw [List.mem_singleton.mp hc]; decide
  · have := sumlen (dots tx) h4
    omega
  · have := joinlen 10 (dots tx) h4
    omega
  · refine (body_join _ ?_).symm
    intro e
    have e2 := congrArg List.length e
    rw [dots_len] at e2
    exact rowsOf_ne tx (List.eq_nil_of_length_eq_zero e2)
theorem dots_take {tx : List Nat} {i : Nat} {r : List Nat} (h : (rowsOf tx)[i]? = some r) : (dots tx).take (i + 1) = (dots tx).take i ++ [r ++ [46]] := by
  unfold dots
  rw [List.take_add_one, List.getElem?_map, h]
  rfl
section
variable {prog : Program} {w : World} {A : Around} {E : Value → Shared → Prop} {s : Shared} {t u : Tok} {h₀ : Heap} {L : Addr} {m : PySem.Str → Option Value} {news : List (Addr × Obj)} {Q : Value → Shared → Prop}
theorem nz_split {tx : List Nat} (hF : Fr h₀ L s.heap m) (hN : News h₀ L s.heap news) (hl : tx.length ≤ 1000)
    (h : ∀ (D : Addr) vs h' k, StrsAre vs ((rowsOf tx).map S) → Fr h₀ L h' m → News h₀ L h' ((D, listOf vs.toArray 0) :: news) → (∀ p ∈ news, p.1 < D) → Q (.ref D) { s with heap := h', toks := k }) :
    wpAny (model prog w) A (call (.builtin "str.split") [.str (S tx) t, .str (S [10]) u]) Q E s :=
  KSpl.split1 hF hN (by decide) (fun D l h' k e a F N lt => h D _ h' k (by rw [e, rowsOf_S] at a; exact a) F N lt) (by rw [S_length, PySem.sizeLine_eq]; omega)
theorem nz_addrows {a b : Addr} {vs : List Value} {rs : List (List Nat)} (hF : Fr h₀ L s.heap m) (hN : News h₀ L s.heap news) (ha : s.heap.IsList a vs.toArray) (hb : s.heap.IsList b #[.str (S [69]) t]) (hv : StrsAre vs (rs.map S)) (hn : rs.length ≤ 1000)
    (h : ∀ (D : Addr) us h', StrsAre us ((rs ++ [[69]]).map S) → Fr h₀ L h' m → News h₀ L h' ((D, listOf (List.toArray us) 0) :: news) → (∀ p ∈ news, p.1 < D) → Q (.ref D) { s with heap := h' }) : wpAny (model prog w) A (binaryOp .Add (.ref a) (.ref b)) Q E s := by
  have hb' : s.heap.IsList b ([.str (S [69]) t] : List Value).toArray := hb
  have hlen := hv.len_eq
  rw [List.length_map] at hlen
  refine add_lists hF hN ha hb' (fun h' F' N' => ?_) (by rw [hlen, List.length_singleton, PySem.sizeLine_eq]; omega)
  exact h _ _ h' (by rw [List.map_append]; exact StrsAre.append' hv (.cons _ _ .nil)) F' N' fun p hp => Heap.lt_size (hN p hp).1
theorem tup_eq2 {t1 t2 : Addr} {n1 n2 : Nat} {a b : List Nat} {i j : Int} {u1 u2 u3 u4 : Tok} (N : News h₀ L s.heap news) (m1 : (t1, tupO [.str (S a) u1, .int i u2] n1) ∈ news)
    (m2 : (t2, tupO [.str (S b) u3, .int j u4] n2) ∈ news) (hab : a = b) (hij : i = j) (ha : ∀ c ∈ a, c ≤ 100000) (hu : A.units + 64 < cLine) (h : Q (.bool true) s) : wpAny (model prog w) A (compareOp .Eq (.ref t1) (.ref t2)) Q E s := by
  subst hab
  exact tup_eq N m1 m2 hij ha hu h
end
/-- the comprehension of the rows -/
theorem nz_comp_rows {prog : Program} {w : World} {A : Around} {h₀ : Heap} {L : Addr} {m : PySem.Str → Option Value} {env : Env} {elt : Expr} {x : PySem.Str} {scope : Scope} {cl : List (PySem.Str × Addr)} {s : Shared} {S' : List (Addr × Obj) → Prop} {Fin : List Value → List (Addr × Obj) → Prop}
    {vs : List Value} {tx : List Nat} {news : List (Addr × Obj)} (hv : StrsAre vs ((rowsOf tx).map S))
    (turn : ∀ r t ys v I oI C oC D m₂ h tk (E' : Value → Shared → Prop), r ∈ rowsOf tx → v = .str (S r) t → PyProof.Rows.LCg.NsObj oC m₂ → m₂ x = some v → Fr h₀ L h m → News h₀ L h ((I, oI) :: (C, oC) :: (D, PyProof.Rows.LCg.lst ys) :: news) → PyProof.Rows.LCg.Off3 I C D news →
      wpAny (model prog w) A (eval elt (compEnvC scope cl C env)) (PyProof.Rows.LCg.CompEnd h₀ L m { s with heap := h, toks := tk } I oI C oC D (PyProof.Rows.LCg.lst ys) S' (fun y news' => news' = news ∧ ∃ u, y = .str (S (r ++ [46])) u)) E' { s with heap := h, toks := tk })
    (fin : ∀ ys, StrsAre ys ((dots tx).map S) → Fin ys news) : PyProof.Rows.LCg.CompRest prog w A h₀ L m env elt x scope cl s S' (fun i v => vs.toArray[i]? = some v) Fin vs.toArray.size 0 [] news := by
  have hsz : vs.toArray.size = (rowsOf tx).length := by rw [List.size_toArray, hv.len_eq, List.length_map]
  rw [hsz]
  refine nz_comp (σ := Unit) (fun _ => news) (fun i _ ys => StrsAre ys (((dots tx).take i).map S)) _ ?_ ?_ () .nil
  · rintro i _ ys v I oI C oC D m₂ h tk E' hi hy hp hC hx F N off _
    rw [List.getElem?_toArray] at hp
    obtain ⟨r, hr⟩ : ∃ r, (rowsOf tx)[i]? = some r := ⟨_, List.getElem?_eq_getElem hi⟩
    have e : ((rowsOf tx).map S)[i]? = some (S r) := by rw [List.getElem?_map, hr]; rfl
    obtain ⟨t, ht⟩ := hv.at e
    have ev : v = .str (S r) t := by rw [ht] at hp; exact (Option.some.inj hp).symm
    refine wpAny_mono (turn r t ys v I oI C oC D m₂ h tk E' (List.mem_of_getElem? hr) ev hC hx F N off) (fun y s₂ hq => ?_) fun _ _ e => e
    obtain ⟨h', tk', nw, e1, F', N', off', hS, rfl, u, rfl⟩ := hq
    refine ⟨h', tk', _, e1, F', N', off', hS, (), rfl, ?_⟩
    rw [dots_take hr, List.map_append]
    exact kct_snoc hy
  · rintro _ ys hy
    rw [← dots_len, List.take_length] at hy
    exact fin ys hy
end Nz

theorem Nz.reg_p50_law_0 : True := by
  k_with "CompSrc" => (k_here; refine Nz.Hold.out ?_)
  k_with "call builtin:str.join" => (k_here; first
     | ((guard_target =~ wpAny _ _ (call _ [Value.str (Nz.S []) _, _]) _ _ _); (with_reducible refine' Nz.nz_join1 (by is_list) (by with_reducible assumption) (by k_dflt (walk_at "nz sz")) ?_); intro _ _)
     | ((with_reducible refine' Nz.nz_join (by is_list) (by with_reducible assumption) (by first | decide | (dsimp only [List.length]; omega)) (by with_reducible assumption) ?_); intro _ _)
     | refine Nz.Hold.out ?_)
  k_with "binaryOp Mult str int" => (k_here; first | ((with_reducible refine' Nz.nz_mul (by walk_at "nz nat") (by omega) ?_); intro _ _) | refine Nz.Hold.out ?_)
  k_with "nz m" => first | exact List.Mem.head _ | (refine List.Mem.tail _ ?_; walk_at "nz m")
  k_with "compareOp NotEq ref ref" => (k_here; (refine' Nz.parts_ne (by k_asm) (by walk_at "nz m") (by walk_at "nz m") (by walk_at "nz m") (by walk_at "nz m") (by decide) (by with_reducible assumption) (by ke_room) ?_))
  k_with "isTrue Compare" => (k_here; (with_reducible show wpAny _ _ (isTrue (PySem.Expr.Compare _ [_] [PySem.Expr.IfExp _ _ _ _] _) _ _) _ _ _); refine Nz.Hold.out ?_)
  k_with "getAttr ref" => (k_here; (refine' Nz.exc_line (by k_asm) (by k_asm) (by with_reducible assumption) ?_))
  k_with "bind" => (k_here; (refine' Nz.name_goesX (by k_asm) (by k_asm) ?_ (by exact rfl) (by exact rfl); intro _ _ _ _))
  trivial
local macro_rules | `(tactic| k_qdec) => `(tactic| decide +kernel)
local macro_rules | `(tactic| k_in) => `(tactic| first | with_reducible assumption | exact Frag.In.keeps (by k_asm) (Fr.keep (by k_asm)))
theorem Nz.reg_p50_law_1 : True := by
  k_with "callWith ref" => (k_here; (with_reducible show wpAny _ _ (callWith _ (Value.ref _) _ (backTo _ (starEach [] _)) _) _ _ _); k_dflt ((refine' callWith_K0 (by exact Frag.In.keeps (by k_asm) (Fr.keep (by k_asm))) (by k_is) ?_); k_whole))
  k_with "call builtin:str.split" => (k_here; (refine' Nz.nz_split (by k_asm) (by k_asm) (by walk_at "nz sz") ?_); intro _ _ _ _ _ _ _ l1; (try k_lt l1))
  k_with "binaryOp Add ref ref" => (k_here; (refine' Nz.nz_addrows (by k_asm) (by k_asm) (by is_list) (by is_list) (by with_reducible assumption) (by walk_at "nz sz") ?_); intro _ _ _ _ _ _ l1; (try k_lt l1))
  k_with "call builtin:len" => (k_here; (with_reducible show wpAny _ _ (call (Value.builtin _) [Value.ref _]) _ _ _); (refine' Nz.nz_lenL (by is_list) (by with_reducible assumption) (by walk_at "nz sz") ?_))
  k_with "compareOp Eq ref ref" => (k_here; (refine' Nz.tup_eq2 (by k_asm) (by walk_at "nz m") (by walk_at "nz m") (by with_reducible assumption) (by first | exact rfl | omega) (by with_reducible assumption) (by ke_room) ?_))
  k_with "exec Try" => (k_here; refine Nz.Hold.out ?_)
  trivial
namespace Nz
def Merged (h₀ : Heap) (L : Addr) (m : PySem.Str → Option Value) (news : List (Addr × Obj)) (s : Shared) (b : Bool) (s' : Shared) : Prop := b = false ∧ ∃ h' tk, s' = { s with heap := h', toks := tk } ∧ Fr h₀ L h' m ∧ News h₀ L h' news
theorem merged {M : Model} {A : Around} {E : Value → Shared → Prop} {s : Shared} {h₀ : Heap} {L : Addr} {m : PySem.Str → Option Value} {news : List (Addr × Obj)} {x : Sem Bool} {Q : Bool → Shared → Prop}
    (_ : Fr h₀ L s.heap m) (_ : News h₀ L s.heap news) (h1 : wpAny M A x (Merged h₀ L m news s) E s) (h2 : ∀ h' tk, Fr h₀ L h' m → News h₀ L h' news → Q false { s with heap := h', toks := tk }) : wpAny M A x Q E s :=
  wpAny_mono h1 (fun _ _ ⟨e, h', tk, e2, F, N⟩ => by subst e e2; exact h2 h' tk F N) fun _ _ x => x
theorem opE {M : Model} {A : Around} {α : Type} {x : Sem α} {Q : α → Shared → Prop} {E : Value → Shared → Prop} {s : Shared} (h : ∀ E', E' = E → wpAny M A x Q E' s) : wpAny M A x Q E s := h E rfl
theorem textN_mem (scr : List Int) (n : Nat) : ∀ c ∈ textN scr n, c ∈ sgL := by
  intro c hc
  obtain ⟨j, _, rfl⟩ := List.mem_map.mp hc
  have hr32 : drawN scr (1 + j) 32 < sgL.length := drawN_lt (by decide)
  rw [List.getD_eq_getElem?_getD, List.getElem?_eq_getElem hr32]
  exact List.getElem_mem hr32
theorem news_tail {h₀ h : Heap} {L : Addr} {p : Addr × Obj} {r : List (Addr × Obj)} (N : News h₀ L h (p :: r)) : News h₀ L h r := fun q hq => N q (.tail _ hq)
theorem ops_mem {i c : Nat} (h : ([40,123,60,91,39,47,124,126] : List Nat)[i]? = some c) : c ∈ opsL := List.mem_of_getElem? h
theorem len60 {ns : List Int} : (ns.take 60).length ≤ 60 := by rw [List.length_take]; omega
theorem ne3 {h₀ h : Heap} {L t sl c : Addr} {x y o : Obj} (_ : News h₀ L h [(t, x), (sl, y), (c, o)]) (hl : (c : Nat) < t) : ∀ q ∈ [(c, o)], q.1 ≠ t := by
  intro q hq
  rw [List.mem_singleton.mp hq]
  exact Nat.ne_of_lt hl
set_option maxHeartbeats 8000000 in
theorem lawT : PySem.Challenge.rw_nz0190_01.Holds := law_head (by rfl) (by rfl) (by rfl) (by
  k_go0
  k_steps
  rename IntsAre _ (List.take 60 _) => hI
  rename News _ _ _ [_, _, _] => hN0
  rename (_ : Nat) < _ ∧ (_ : Nat) < _ => hl1
  obtain ⟨hlt, hlc⟩ := hl1
  generalize hscr : List.take 60 _ = scr at hI
  have hlen : scr.length ≤ 60 := by rw [← hscr]; exact len60
  have hne1 := ne3 hN0 hlc
  refine Hold.mk ?_
  refine opE ?_
  intro E8 hE8
  k_steps
  refine Hold.mk ?_
  have hn15 : drawN scr 0 15 < 15 := drawN_lt (by decide)
  refine PyProof.Rows.LCg.CompSrc.range (n := drawN scr 0 15) (by rfl) (by k_asm) (by k_asm) (by assumption) ?z1 ?z2 ?z3 ?_
  case z2 => exact rangeSize_nat _ _
  case z1 => first | exact small_one (by omega) (by omega) (by omega) (by omega)
  case z3 => rw [sizeLine_eq]; omega
  intro g'
  refine nz_comp_tape (by k_asm) scr rfl _ ?_ ?_
  · intro i k t n1 ys v I oI C oC D m₂ h tk E' hi hk hC hx F N off
    have hN2 := comp_news N
    have hne2 := comp_ne (oI := oI) (oC := oC) (oD := PyProof.Rows.LCg.lst ys) off hlc
    have hr32 : drawN scr k 32 < 32 := drawN_lt (by decide)
    clear N
    k_steps
    rename News _ _ _ ((_, listOf #[_, _] _) :: _) => hN3
    exact PyProof.Rows.LCg.CompEnd.intro (by assumption) (comp_newsB hN3) _ (fun p hp => hp) (comp_off off) trivial ⟨_, _, rfl, _, by rw [signs_item hr32]⟩
  · intro t n1 ys hy
    have htx : StrsAre ys ((textN scr (drawN scr 0 15)).map fun c => S [c]) := by unfold textN; rw [List.map_map]; exact hy
    have htl : (textN scr (drawN scr 0 15)).length ≤ 14 := by unfold textN; rw [List.length_map, List.length_range]; omega
    have htm : ∀ c ∈ textN scr (drawN scr 0 15), c ∈ sgL := textN_mem scr _
    generalize textN scr (drawN scr 0 15) = tx at htx htl htm
    clear hy
    generalize hk1 : 1 + drawN scr 0 15 = k1
    have hk1b : k1 ≤ 15 := by omega
    have h8 : drawN scr k1 8 < 8 := drawN_lt (by decide)
    have h3 : drawN scr (k1 + 1) 3 < 3 := drawN_lt (by decide)
    clear hne1 hN0
    k_steps
    rename News _ _ _ (_ :: tapeL _ _ _ _ _ _ _ _ _) => hN4
    have hN5 := news_tail hN4
    have hne1 := ne3 hN5 hlc
    clear hN4
    refine Hold.mk ?_
    k_steps
    rename (_ : List Nat)[_]? = some _ => ho1
    have ho := ops_mem ho1
    obtain ⟨hf1, hf2, hf3, hf4, hf5, hf6, hf7, hf8⟩ := facts1 ho (List.replicate (drawN scr (k1 + 1) 3) 10 ++ [120]) htl
    have hlk := ends_all _ ho
    have hx1 : ∀ c ∈ tx, c ≤ 100000 := fun c hc => sgL_le c (htm c hc)
    refine Hold.mk ?_
    k_steps
    rename News _ _ _ (_ :: _) => hN6
    have hN7 := news_tail (news_tail hN6)
    clear hN6
    obtain ⟨hg1, hg2, hg3, hg4, hg5, hg6, hg7, hg8, hg9, hg10, hg11⟩ := facts2 ho (List.replicate (drawN scr (k1 + 1) 3) 10 ++ [120]) htl htm scr (k1 + 1 + 1)
    clear hf1 hf2 hf3 hf4 hf5 hf6 hf7 hf8
    refine Hold.mk ?_
    k_steps
    refine Hold.mk ?_
    rename News _ _ _ (_ :: _) => hN8
    rename Fr _ _ _ _ => hF8
    refine merged (s := ⟨_, _, _, _, _⟩) hF8 hN8 ?_ ?_
    · refine PySem.wpAny_isTrue_Compare1 ?_
      k_steps
      all_goals
        (rename News _ _ _ (_ :: _) => nN
         exact ⟨rfl, _, _, rfl, by assumption, fun p hp => nN p (by repeat (first | with_reducible exact hp | refine List.mem_cons_of_mem _ ?_))⟩)
    intro h9 tk9 hF9 hN9
    clear hF8 hN8
    k_steps
    refine Hold.mk (PySem.wpAny_Try_except ?_)
    refine opE ?_
    intro E9 hE9
    k_steps
    refine Hold.mk ?_
    clear hF9 hN9

    refine' ct_delimF _ _ _ _ _ _ _ _ _ _ ?hl hg9 hg10 _ _ _ _ _ _ _ _ _ _ _ _ _ _ _ _ _ ?B ?F ?X ?N ?T ?hk ?hd ?hu ?hret
    case hl => walk_at "nz sz"
    case B => k_asm
    case F => k_asm
    case X => k_asm
    case N => k_asm
    case T => k_asm
    case hk => exact rfl
    case hd => ktr_room
    case hu => ktr_units
    case hret =>
      intro e D tk1 tk2 tm tl g h' tk' hFg hU hR
      subst hE9
      rw [hg11] at hR
      clear hg1 hg2 hg3 hg4 hg5 hg6 hg7 hg8 hg9 hg10 hg11
      show wpAny _ _ (noteFrame _ _) _ _ _
      refine' caught_X ?y0 ?y1 hFg hU hR ?y2 ?y3 ?y4 ?y5 ?y6 ?y7 ?y8 ?y9
      case y0 => exact rfl
      case y1 => k_asm
      case y2 => k_asm
      case y3 => k_asm
      case y4 => k_is
      case y5 => exact rfl
      case y6 => exact rfl
      case y7 => exact rfl
      case y8 => decide
      case y9 =>
        intro h11 vs11 sl11 tk11 hF11 hN11
        clear hFg hU hR
        obtain ⟨hd1, hd2, hd3, hd4, hd5, hd6, hd7, hd8⟩ := dots_facts htl hx1
        k_steps
        rename StrsAre _ ((rowsOf tx).map S) => hv12
        refine Hold.mk ?_
        refine PyProof.Rows.LCg.CompSrc.ledger (by rfl) (by k_asm) (by k_asm) (List.Mem.head _) ?z1 ?_
        case z1 => rw [List.size_toArray, hv12.len_eq, List.length_map, PySem.sizeLine_eq]; omega
        intro g'
        refine nz_comp_rows hv12 ?_ ?_
        · intro r t ys v I oI C oC D m₂ h tk E' hr hev hC hx F N off
          subst hev
          have hrl := rowsOf_short tx r hr
          k_steps
          exact PyProof.Rows.LCg.CompEnd.intro (by assumption) (by assumption) _ (fun p hp => hp) off (.inr ⟨_, List.Mem.head _, rfl, _, rfl⟩) ⟨rfl, _, rfl⟩
        · intro ys hy
          k_steps)
end Nz
theorem PySem.Challenge.cw_nz0190_01_holds : PySem.Challenge.rw_nz0190_01.Holds :=
  Nz.lawT

