import PyProof.Rows.All
import Wide.All
import OpenK.AllK
import Wide.FinOn
import PySem.Challenge.RW_nu0337_01
open PySem PySem.W PyProof.Rows PySem.Spec PySem.Calls
set_option Elab.async false
namespace Mine
set_option maxRecDepth 100000
set_option maxHeartbeats 8000000
noncomputable abbrev pw := PySem.Challenge.pw_nu0337_01
noncomputable def defIn (b : List Stmt) (i : Nat) : Arguments × List Stmt × Scope := match b[i]? with
  | some (.FunctionDef _ a b _ _ _ s _ _ _) => (a, b, s)
  | _ => ({ posonlyargs := [], args := [], vararg := none, kwonlyargs := [], kw_defaults := [], kwarg := none, defaults := [] }, [], default)
noncomputable def clsIn (b : List Stmt) (i : Nat) : List Stmt := match b[i]? with
  | some (.ClassDef _ _ _ b _ _ _ _ _ _ _) => b
  | _ => []
@[reducible] noncomputable def P0 : Arguments := Subtype.val (p := fun b => (defIn pw.main.body 0).1 = b) ⟨_, by conv => lhs; whnf⟩
@[reducible] noncomputable def B0 : List Stmt := Subtype.val (p := fun b => (defIn pw.main.body 0).2.1 = b) ⟨_, by conv => lhs; whnf⟩
@[reducible] noncomputable def S0 : Scope := Subtype.val (p := fun b => (defIn pw.main.body 0).2.2 = b) ⟨_, by conv => lhs; whnf⟩
@[reducible] noncomputable def P2_0 : Arguments := Subtype.val (p := fun b => (defIn (clsIn pw.main.body 2) 0).1 = b) ⟨_, by conv => lhs; whnf⟩
@[reducible] noncomputable def B2_0 : List Stmt := Subtype.val (p := fun b => (defIn (clsIn pw.main.body 2) 0).2.1 = b) ⟨_, by conv => lhs; whnf⟩
@[reducible] noncomputable def S2_0 : Scope := Subtype.val (p := fun b => (defIn (clsIn pw.main.body 2) 0).2.2 = b) ⟨_, by conv => lhs; whnf⟩
@[reducible] noncomputable def P3 : Arguments := Subtype.val (p := fun b => (defIn pw.main.body 3).1 = b) ⟨_, by conv => lhs; whnf⟩
@[reducible] noncomputable def B3 : List Stmt := Subtype.val (p := fun b => (defIn pw.main.body 3).2.1 = b) ⟨_, by conv => lhs; whnf⟩
@[reducible] noncomputable def S3 : Scope := Subtype.val (p := fun b => (defIn pw.main.body 3).2.2 = b) ⟨_, by conv => lhs; whnf⟩
@[reducible] noncomputable def P4 : Arguments := Subtype.val (p := fun b => (defIn pw.main.body 4).1 = b) ⟨_, by conv => lhs; whnf⟩
@[reducible] noncomputable def B4 : List Stmt := Subtype.val (p := fun b => (defIn pw.main.body 4).2.1 = b) ⟨_, by conv => lhs; whnf⟩
@[reducible] noncomputable def S4 : Scope := Subtype.val (p := fun b => (defIn pw.main.body 4).2.2 = b) ⟨_, by conv => lhs; whnf⟩
@[reducible] noncomputable def P5 : Arguments := Subtype.val (p := fun b => (defIn pw.main.body 5).1 = b) ⟨_, by conv => lhs; whnf⟩
@[reducible] noncomputable def B5 : List Stmt := Subtype.val (p := fun b => (defIn pw.main.body 5).2.1 = b) ⟨_, by conv => lhs; whnf⟩
@[reducible] noncomputable def S5 : Scope := Subtype.val (p := fun b => (defIn pw.main.body 5).2.2 = b) ⟨_, by conv => lhs; whnf⟩
@[reducible] noncomputable def P6 : Arguments := Subtype.val (p := fun b => (defIn pw.main.body 6).1 = b) ⟨_, by conv => lhs; whnf⟩
@[reducible] noncomputable def B6 : List Stmt := Subtype.val (p := fun b => (defIn pw.main.body 6).2.1 = b) ⟨_, by conv => lhs; whnf⟩
@[reducible] noncomputable def S6 : Scope := Subtype.val (p := fun b => (defIn pw.main.body 6).2.2 = b) ⟨_, by conv => lhs; whnf⟩
@[reducible] noncomputable def P8 : Arguments := Subtype.val (p := fun b => (defIn pw.main.body 8).1 = b) ⟨_, by conv => lhs; whnf⟩
@[reducible] noncomputable def B8 : List Stmt := Subtype.val (p := fun b => (defIn pw.main.body 8).2.1 = b) ⟨_, by conv => lhs; whnf⟩
@[reducible] noncomputable def S8 : Scope := Subtype.val (p := fun b => (defIn pw.main.body 8).2.2 = b) ⟨_, by conv => lhs; whnf⟩
@[reducible] noncomputable def P9 : Arguments := Subtype.val (p := fun b => (defIn pw.main.body 9).1 = b) ⟨_, by conv => lhs; whnf⟩
@[reducible] noncomputable def B9 : List Stmt := Subtype.val (p := fun b => (defIn pw.main.body 9).2.1 = b) ⟨_, by conv => lhs; whnf⟩
@[reducible] noncomputable def S9 : Scope := Subtype.val (p := fun b => (defIn pw.main.body 9).2.2 = b) ⟨_, by conv => lhs; whnf⟩
@[reducible] noncomputable def P10 : Arguments := Subtype.val (p := fun b => (defIn pw.main.body 10).1 = b) ⟨_, by conv => lhs; whnf⟩
@[reducible] noncomputable def B10 : List Stmt := Subtype.val (p := fun b => (defIn pw.main.body 10).2.1 = b) ⟨_, by conv => lhs; whnf⟩
@[reducible] noncomputable def S10 : Scope := Subtype.val (p := fun b => (defIn pw.main.body 10).2.2 = b) ⟨_, by conv => lhs; whnf⟩
@[reducible] noncomputable def P11 : Arguments := Subtype.val (p := fun b => (defIn pw.main.body 11).1 = b) ⟨_, by conv => lhs; whnf⟩
@[reducible] noncomputable def B11 : List Stmt := Subtype.val (p := fun b => (defIn pw.main.body 11).2.1 = b) ⟨_, by conv => lhs; whnf⟩
@[reducible] noncomputable def S11 : Scope := Subtype.val (p := fun b => (defIn pw.main.body 11).2.2 = b) ⟨_, by conv => lhs; whnf⟩
@[reducible] noncomputable def P12 : Arguments := Subtype.val (p := fun b => (defIn pw.main.body 12).1 = b) ⟨_, by conv => lhs; whnf⟩
@[reducible] noncomputable def B12 : List Stmt := Subtype.val (p := fun b => (defIn pw.main.body 12).2.1 = b) ⟨_, by conv => lhs; whnf⟩
@[reducible] noncomputable def S12 : Scope := Subtype.val (p := fun b => (defIn pw.main.body 12).2.2 = b) ⟨_, by conv => lhs; whnf⟩
@[reducible] noncomputable def P13 : Arguments := Subtype.val (p := fun b => (defIn pw.main.body 13).1 = b) ⟨_, by conv => lhs; whnf⟩
@[reducible] noncomputable def B13 : List Stmt := Subtype.val (p := fun b => (defIn pw.main.body 13).2.1 = b) ⟨_, by conv => lhs; whnf⟩
@[reducible] noncomputable def S13 : Scope := Subtype.val (p := fun b => (defIn pw.main.body 13).2.2 = b) ⟨_, by conv => lhs; whnf⟩
@[reducible] noncomputable def P14 : Arguments := Subtype.val (p := fun b => (defIn pw.main.body 14).1 = b) ⟨_, by conv => lhs; whnf⟩
@[reducible] noncomputable def B14 : List Stmt := Subtype.val (p := fun b => (defIn pw.main.body 14).2.1 = b) ⟨_, by conv => lhs; whnf⟩
@[reducible] noncomputable def S14 : Scope := Subtype.val (p := fun b => (defIn pw.main.body 14).2.2 = b) ⟨_, by conv => lhs; whnf⟩
@[reducible] noncomputable def P15 : Arguments := Subtype.val (p := fun b => (defIn pw.main.body 15).1 = b) ⟨_, by conv => lhs; whnf⟩
@[reducible] noncomputable def B15 : List Stmt := Subtype.val (p := fun b => (defIn pw.main.body 15).2.1 = b) ⟨_, by conv => lhs; whnf⟩
@[reducible] noncomputable def S15 : Scope := Subtype.val (p := fun b => (defIn pw.main.body 15).2.2 = b) ⟨_, by conv => lhs; whnf⟩
@[reducible] noncomputable def P16 : Arguments := Subtype.val (p := fun b => (defIn pw.main.body 16).1 = b) ⟨_, by conv => lhs; whnf⟩
@[reducible] noncomputable def B16 : List Stmt := Subtype.val (p := fun b => (defIn pw.main.body 16).2.1 = b) ⟨_, by conv => lhs; whnf⟩
@[reducible] noncomputable def S16 : Scope := Subtype.val (p := fun b => (defIn pw.main.body 16).2.2 = b) ⟨_, by conv => lhs; whnf⟩
@[reducible] noncomputable def P17 : Arguments := Subtype.val (p := fun b => (defIn pw.main.body 17).1 = b) ⟨_, by conv => lhs; whnf⟩
@[reducible] noncomputable def B17 : List Stmt := Subtype.val (p := fun b => (defIn pw.main.body 17).2.1 = b) ⟨_, by conv => lhs; whnf⟩
@[reducible] noncomputable def S17 : Scope := Subtype.val (p := fun b => (defIn pw.main.body 17).2.2 = b) ⟨_, by conv => lhs; whnf⟩
@[reducible] noncomputable def P18 : Arguments := Subtype.val (p := fun b => (defIn pw.main.body 18).1 = b) ⟨_, by conv => lhs; whnf⟩
@[reducible] noncomputable def B18 : List Stmt := Subtype.val (p := fun b => (defIn pw.main.body 18).2.1 = b) ⟨_, by conv => lhs; whnf⟩
@[reducible] noncomputable def S18 : Scope := Subtype.val (p := fun b => (defIn pw.main.body 18).2.2 = b) ⟨_, by conv => lhs; whnf⟩
@[reducible] noncomputable def P19 : Arguments := Subtype.val (p := fun b => (defIn pw.main.body 19).1 = b) ⟨_, by conv => lhs; whnf⟩
@[reducible] noncomputable def B19 : List Stmt := Subtype.val (p := fun b => (defIn pw.main.body 19).2.1 = b) ⟨_, by conv => lhs; whnf⟩
@[reducible] noncomputable def S19 : Scope := Subtype.val (p := fun b => (defIn pw.main.body 19).2.2 = b) ⟨_, by conv => lhs; whnf⟩
@[reducible] noncomputable def P20 : Arguments := Subtype.val (p := fun b => (defIn pw.main.body 20).1 = b) ⟨_, by conv => lhs; whnf⟩
@[reducible] noncomputable def B20 : List Stmt := Subtype.val (p := fun b => (defIn pw.main.body 20).2.1 = b) ⟨_, by conv => lhs; whnf⟩
@[reducible] noncomputable def S20 : Scope := Subtype.val (p := fun b => (defIn pw.main.body 20).2.2 = b) ⟨_, by conv => lhs; whnf⟩
@[reducible] noncomputable def P21 : Arguments := Subtype.val (p := fun b => (defIn pw.main.body 21).1 = b) ⟨_, by conv => lhs; whnf⟩
@[reducible] noncomputable def B21 : List Stmt := Subtype.val (p := fun b => (defIn pw.main.body 21).2.1 = b) ⟨_, by conv => lhs; whnf⟩
@[reducible] noncomputable def S21 : Scope := Subtype.val (p := fun b => (defIn pw.main.body 21).2.2 = b) ⟨_, by conv => lhs; whnf⟩
@[reducible] noncomputable def P22 : Arguments := Subtype.val (p := fun b => (defIn pw.main.body 22).1 = b) ⟨_, by conv => lhs; whnf⟩
@[reducible] noncomputable def B22 : List Stmt := Subtype.val (p := fun b => (defIn pw.main.body 22).2.1 = b) ⟨_, by conv => lhs; whnf⟩
@[reducible] noncomputable def S22 : Scope := Subtype.val (p := fun b => (defIn pw.main.body 22).2.2 = b) ⟨_, by conv => lhs; whnf⟩
@[reducible] noncomputable def P24 : Arguments := Subtype.val (p := fun b => (defIn pw.main.body 24).1 = b) ⟨_, by conv => lhs; whnf⟩
@[reducible] noncomputable def B24 : List Stmt := Subtype.val (p := fun b => (defIn pw.main.body 24).2.1 = b) ⟨_, by conv => lhs; whnf⟩
@[reducible] noncomputable def S24 : Scope := Subtype.val (p := fun b => (defIn pw.main.body 24).2.2 = b) ⟨_, by conv => lhs; whnf⟩
@[reducible] noncomputable def P25 : Arguments := Subtype.val (p := fun b => (defIn pw.main.body 25).1 = b) ⟨_, by conv => lhs; whnf⟩
@[reducible] noncomputable def B25 : List Stmt := Subtype.val (p := fun b => (defIn pw.main.body 25).2.1 = b) ⟨_, by conv => lhs; whnf⟩
@[reducible] noncomputable def S25 : Scope := Subtype.val (p := fun b => (defIn pw.main.body 25).2.2 = b) ⟨_, by conv => lhs; whnf⟩
@[reducible] noncomputable def P26 : Arguments := Subtype.val (p := fun b => (defIn pw.main.body 26).1 = b) ⟨_, by conv => lhs; whnf⟩
@[reducible] noncomputable def B26 : List Stmt := Subtype.val (p := fun b => (defIn pw.main.body 26).2.1 = b) ⟨_, by conv => lhs; whnf⟩
@[reducible] noncomputable def S26 : Scope := Subtype.val (p := fun b => (defIn pw.main.body 26).2.2 = b) ⟨_, by conv => lhs; whnf⟩
@[reducible] noncomputable def P27 : Arguments := Subtype.val (p := fun b => (defIn pw.main.body 27).1 = b) ⟨_, by conv => lhs; whnf⟩
@[reducible] noncomputable def B27 : List Stmt := Subtype.val (p := fun b => (defIn pw.main.body 27).2.1 = b) ⟨_, by conv => lhs; whnf⟩
@[reducible] noncomputable def S27 : Scope := Subtype.val (p := fun b => (defIn pw.main.body 27).2.2 = b) ⟨_, by conv => lhs; whnf⟩
@[reducible] noncomputable def P28 : Arguments := Subtype.val (p := fun b => (defIn pw.main.body 28).1 = b) ⟨_, by conv => lhs; whnf⟩
@[reducible] noncomputable def B28 : List Stmt := Subtype.val (p := fun b => (defIn pw.main.body 28).2.1 = b) ⟨_, by conv => lhs; whnf⟩
@[reducible] noncomputable def S28 : Scope := Subtype.val (p := fun b => (defIn pw.main.body 28).2.2 = b) ⟨_, by conv => lhs; whnf⟩
@[reducible] noncomputable def P29 : Arguments := Subtype.val (p := fun b => (defIn pw.main.body 29).1 = b) ⟨_, by conv => lhs; whnf⟩
@[reducible] noncomputable def B29 : List Stmt := Subtype.val (p := fun b => (defIn pw.main.body 29).2.1 = b) ⟨_, by conv => lhs; whnf⟩
@[reducible] noncomputable def S29 : Scope := Subtype.val (p := fun b => (defIn pw.main.body 29).2.2 = b) ⟨_, by conv => lhs; whnf⟩
@[reducible] noncomputable def P31_0 : Arguments := Subtype.val (p := fun b => (defIn (clsIn pw.main.body 31) 0).1 = b) ⟨_, by conv => lhs; whnf⟩
@[reducible] noncomputable def B31_0 : List Stmt := Subtype.val (p := fun b => (defIn (clsIn pw.main.body 31) 0).2.1 = b) ⟨_, by conv => lhs; whnf⟩
@[reducible] noncomputable def S31_0 : Scope := Subtype.val (p := fun b => (defIn (clsIn pw.main.body 31) 0).2.2 = b) ⟨_, by conv => lhs; whnf⟩
@[reducible] noncomputable def P31_1 : Arguments := Subtype.val (p := fun b => (defIn (clsIn pw.main.body 31) 1).1 = b) ⟨_, by conv => lhs; whnf⟩
@[reducible] noncomputable def B31_1 : List Stmt := Subtype.val (p := fun b => (defIn (clsIn pw.main.body 31) 1).2.1 = b) ⟨_, by conv => lhs; whnf⟩
@[reducible] noncomputable def S31_1 : Scope := Subtype.val (p := fun b => (defIn (clsIn pw.main.body 31) 1).2.2 = b) ⟨_, by conv => lhs; whnf⟩
@[reducible] noncomputable def P31_2 : Arguments := Subtype.val (p := fun b => (defIn (clsIn pw.main.body 31) 2).1 = b) ⟨_, by conv => lhs; whnf⟩
@[reducible] noncomputable def B31_2 : List Stmt := Subtype.val (p := fun b => (defIn (clsIn pw.main.body 31) 2).2.1 = b) ⟨_, by conv => lhs; whnf⟩
@[reducible] noncomputable def S31_2 : Scope := Subtype.val (p := fun b => (defIn (clsIn pw.main.body 31) 2).2.2 = b) ⟨_, by conv => lhs; whnf⟩
@[reducible] noncomputable def P31_3 : Arguments := Subtype.val (p := fun b => (defIn (clsIn pw.main.body 31) 3).1 = b) ⟨_, by conv => lhs; whnf⟩
@[reducible] noncomputable def B31_3 : List Stmt := Subtype.val (p := fun b => (defIn (clsIn pw.main.body 31) 3).2.1 = b) ⟨_, by conv => lhs; whnf⟩
@[reducible] noncomputable def S31_3 : Scope := Subtype.val (p := fun b => (defIn (clsIn pw.main.body 31) 3).2.2 = b) ⟨_, by conv => lhs; whnf⟩
@[reducible] noncomputable def P33_0 : Arguments := Subtype.val (p := fun b => (defIn (clsIn pw.main.body 33) 0).1 = b) ⟨_, by conv => lhs; whnf⟩
@[reducible] noncomputable def B33_0 : List Stmt := Subtype.val (p := fun b => (defIn (clsIn pw.main.body 33) 0).2.1 = b) ⟨_, by conv => lhs; whnf⟩
@[reducible] noncomputable def S33_0 : Scope := Subtype.val (p := fun b => (defIn (clsIn pw.main.body 33) 0).2.2 = b) ⟨_, by conv => lhs; whnf⟩
@[reducible] noncomputable def P34_0 : Arguments := Subtype.val (p := fun b => (defIn (clsIn pw.main.body 34) 0).1 = b) ⟨_, by conv => lhs; whnf⟩
@[reducible] noncomputable def B34_0 : List Stmt := Subtype.val (p := fun b => (defIn (clsIn pw.main.body 34) 0).2.1 = b) ⟨_, by conv => lhs; whnf⟩
@[reducible] noncomputable def S34_0 : Scope := Subtype.val (p := fun b => (defIn (clsIn pw.main.body 34) 0).2.2 = b) ⟨_, by conv => lhs; whnf⟩
@[reducible] noncomputable def P35_0 : Arguments := Subtype.val (p := fun b => (defIn (clsIn pw.main.body 35) 0).1 = b) ⟨_, by conv => lhs; whnf⟩
@[reducible] noncomputable def B35_0 : List Stmt := Subtype.val (p := fun b => (defIn (clsIn pw.main.body 35) 0).2.1 = b) ⟨_, by conv => lhs; whnf⟩
@[reducible] noncomputable def S35_0 : Scope := Subtype.val (p := fun b => (defIn (clsIn pw.main.body 35) 0).2.2 = b) ⟨_, by conv => lhs; whnf⟩
@[reducible] noncomputable def P35_1 : Arguments := Subtype.val (p := fun b => (defIn (clsIn pw.main.body 35) 1).1 = b) ⟨_, by conv => lhs; whnf⟩
@[reducible] noncomputable def B35_1 : List Stmt := Subtype.val (p := fun b => (defIn (clsIn pw.main.body 35) 1).2.1 = b) ⟨_, by conv => lhs; whnf⟩
@[reducible] noncomputable def S35_1 : Scope := Subtype.val (p := fun b => (defIn (clsIn pw.main.body 35) 1).2.2 = b) ⟨_, by conv => lhs; whnf⟩
@[reducible] noncomputable def P35_2 : Arguments := Subtype.val (p := fun b => (defIn (clsIn pw.main.body 35) 2).1 = b) ⟨_, by conv => lhs; whnf⟩
@[reducible] noncomputable def B35_2 : List Stmt := Subtype.val (p := fun b => (defIn (clsIn pw.main.body 35) 2).2.1 = b) ⟨_, by conv => lhs; whnf⟩
@[reducible] noncomputable def S35_2 : Scope := Subtype.val (p := fun b => (defIn (clsIn pw.main.body 35) 2).2.2 = b) ⟨_, by conv => lhs; whnf⟩
@[reducible] noncomputable def P37 : Arguments := Subtype.val (p := fun b => (defIn pw.main.body 37).1 = b) ⟨_, by conv => lhs; whnf⟩
@[reducible] noncomputable def B37 : List Stmt := Subtype.val (p := fun b => (defIn pw.main.body 37).2.1 = b) ⟨_, by conv => lhs; whnf⟩
@[reducible] noncomputable def S37 : Scope := Subtype.val (p := fun b => (defIn pw.main.body 37).2.2 = b) ⟨_, by conv => lhs; whnf⟩
@[reducible] noncomputable def P38 : Arguments := Subtype.val (p := fun b => (defIn pw.main.body 38).1 = b) ⟨_, by conv => lhs; whnf⟩
@[reducible] noncomputable def B38 : List Stmt := Subtype.val (p := fun b => (defIn pw.main.body 38).2.1 = b) ⟨_, by conv => lhs; whnf⟩
@[reducible] noncomputable def S38 : Scope := Subtype.val (p := fun b => (defIn pw.main.body 38).2.2 = b) ⟨_, by conv => lhs; whnf⟩
@[reducible] noncomputable def P39 : Arguments := Subtype.val (p := fun b => (defIn pw.main.body 39).1 = b) ⟨_, by conv => lhs; whnf⟩
@[reducible] noncomputable def B39 : List Stmt := Subtype.val (p := fun b => (defIn pw.main.body 39).2.1 = b) ⟨_, by conv => lhs; whnf⟩
@[reducible] noncomputable def S39 : Scope := Subtype.val (p := fun b => (defIn pw.main.body 39).2.2 = b) ⟨_, by conv => lhs; whnf⟩
@[reducible] noncomputable def P40 : Arguments := Subtype.val (p := fun b => (defIn pw.main.body 40).1 = b) ⟨_, by conv => lhs; whnf⟩
@[reducible] noncomputable def B40 : List Stmt := Subtype.val (p := fun b => (defIn pw.main.body 40).2.1 = b) ⟨_, by conv => lhs; whnf⟩
@[reducible] noncomputable def S40 : Scope := Subtype.val (p := fun b => (defIn pw.main.body 40).2.2 = b) ⟨_, by conv => lhs; whnf⟩
@[reducible] noncomputable def P41 : Arguments := Subtype.val (p := fun b => (defIn pw.main.body 41).1 = b) ⟨_, by conv => lhs; whnf⟩
@[reducible] noncomputable def B41 : List Stmt := Subtype.val (p := fun b => (defIn pw.main.body 41).2.1 = b) ⟨_, by conv => lhs; whnf⟩
@[reducible] noncomputable def S41 : Scope := Subtype.val (p := fun b => (defIn pw.main.body 41).2.2 = b) ⟨_, by conv => lhs; whnf⟩
@[reducible] noncomputable def P42 : Arguments := Subtype.val (p := fun b => (defIn pw.main.body 42).1 = b) ⟨_, by conv => lhs; whnf⟩
@[reducible] noncomputable def B42 : List Stmt := Subtype.val (p := fun b => (defIn pw.main.body 42).2.1 = b) ⟨_, by conv => lhs; whnf⟩
@[reducible] noncomputable def S42 : Scope := Subtype.val (p := fun b => (defIn pw.main.body 42).2.2 = b) ⟨_, by conv => lhs; whnf⟩
@[reducible] noncomputable def P43 : Arguments := Subtype.val (p := fun b => (defIn pw.main.body 43).1 = b) ⟨_, by conv => lhs; whnf⟩
@[reducible] noncomputable def B43 : List Stmt := Subtype.val (p := fun b => (defIn pw.main.body 43).2.1 = b) ⟨_, by conv => lhs; whnf⟩
@[reducible] noncomputable def S43 : Scope := Subtype.val (p := fun b => (defIn pw.main.body 43).2.2 = b) ⟨_, by conv => lhs; whnf⟩
@[reducible] noncomputable def P44 : Arguments := Subtype.val (p := fun b => (defIn pw.main.body 44).1 = b) ⟨_, by conv => lhs; whnf⟩
@[reducible] noncomputable def B44 : List Stmt := Subtype.val (p := fun b => (defIn pw.main.body 44).2.1 = b) ⟨_, by conv => lhs; whnf⟩
@[reducible] noncomputable def S44 : Scope := Subtype.val (p := fun b => (defIn pw.main.body 44).2.2 = b) ⟨_, by conv => lhs; whnf⟩
noncomputable def KK : Params → Frag := fun P =>
 (nat_lit 2, ⟨.none, none, .dict ([] : List DictEntry).toArray 0, #[]⟩) ::
 (nat_lit 3, ⟨(.type "dict"), none, .dict ([⟨PyData.keyHash P "__name__", (.str "__name__" 165), (.str "law_nu0337_01" 665)⟩, ⟨PyData.keyHash P "__doc__", (.str "__doc__" 166), .none⟩, ⟨PyData.keyHash P "__package__", (.str "__package__" 167), .none⟩, ⟨PyData.keyHash P "__loader__", (.str "__loader__" 168), (.builtin "__main__.__loader__#opaque")⟩, ⟨PyData.keyHash P "__spec__", (.str "__spec__" 169), .none⟩, ⟨PyData.keyHash P "__annotations__", (.str "__annotations__" 170), (.ref 6)⟩, ⟨PyData.keyHash P "__builtins__", (.str "__builtins__" 171), (.ref 4)⟩, ⟨PyData.keyHash P "__file__", (.str "__file__" 173), (.str "/claim/cut.py" 172)⟩, ⟨PyData.keyHash P "__cached__", (.str "__cached__" 174), .none⟩, ⟨PyData.keyHash P "_wall", (.str "_wall" 193), (.ref 21)⟩, ⟨PyData.keyHash P "Node", (.str "Node" 233), (.ref 39)⟩, ⟨PyData.keyHash P "const", (.str "const" 242), (.ref 50)⟩, ⟨PyData.keyHash P "is_designator", (.str "is_designator" 249), (.ref 57)⟩, ⟨PyData.keyHash P "root_var", (.str "root_var" 256), (.ref 64)⟩, ⟨PyData.keyHash P "is_readonly", (.str "is_readonly" 264), (.ref 71)⟩, ⟨PyData.keyHash P "same_type", (.str "same_type" 274), (.ref 78)⟩, ⟨PyData.keyHash P "is_integer", (.str "is_integer" 281), (.ref 85)⟩, ⟨PyData.keyHash P "is_text", (.str "is_text" 288), (.ref 92)⟩, ⟨PyData.keyHash P "is_open", (.str "is_open" 295), (.ref 99)⟩, ⟨PyData.keyHash P "record_of", (.str "record_of" 302), (.ref 106)⟩, ⟨PyData.keyHash P "extends", (.str "extends" 312), (.ref 113)⟩, ⟨PyData.keyHash P "equal_types", (.str "equal_types" 320), (.ref 120)⟩, ⟨PyData.keyHash P "equal_procs", (.str "equal_procs" 331), (.ref 127)⟩, ⟨PyData.keyHash P "equal_arrays", (.str "equal_arrays" 339), (.ref 134)⟩, ⟨PyData.keyHash P "assignable_string", (.str "assignable_string" 347), (.ref 141)⟩, ⟨PyData.keyHash P "assignable_proc", (.str "assignable_proc" 355), (.ref 148)⟩, ⟨PyData.keyHash P "assignable", (.str "assignable" 364), (.ref 155)⟩, ⟨PyData.keyHash P "passable_variable", (.str "passable_variable" 374), (.ref 162)⟩, ⟨PyData.keyHash P "passable_structure", (.str "passable_structure" 384), (.ref 169)⟩, ⟨PyData.keyHash P "passable", (.str "passable" 392), (.ref 176)⟩, ⟨PyData.keyHash P "convert", (.str "convert" 406), (.ref 183)⟩, ⟨PyData.keyHash P "assignment", (.str "assignment" 418), (.ref 190)⟩, ⟨PyData.keyHash P "condition", (.str "condition" 427), (.ref 197)⟩, ⟨PyData.keyHash P "argument", (.str "argument" 438), (.ref 204)⟩, ⟨PyData.keyHash P "use_code", (.str "use_code" 446), (.ref 211)⟩, ⟨PyData.keyHash P "call_node", (.str "call_node" 462), (.ref 218)⟩, ⟨PyData.keyHash P "ErrorList", (.str "ErrorList" 516), (.ref 256)⟩, ⟨PyData.keyHash P "Type", (.str "Type" 560), (.ref 277)⟩, ⟨PyData.keyHash P "Obj", (.str "Obj" 605), (.ref 298)⟩, ⟨PyData.keyHash P "Types", (.str "Types" 664), (.ref 334)⟩, ⟨PyData.keyHash P "_law_pool", (.str "_law_pool" 679), (.ref 345)⟩, ⟨PyData.keyHash P "_law_pick", (.str "_law_pick" 688), (.ref 352)⟩, ⟨PyData.keyHash P "_law_world", (.str "_law_world" 697), (.ref 359)⟩, ⟨PyData.keyHash P "_law_side", (.str "_law_side" 711), (.ref 366)⟩, ⟨PyData.keyHash P "_law_param", (.str "_law_param" 723), (.ref 373)⟩, ⟨PyData.keyHash P "_law_letter", (.str "_law_letter" 731), (.ref 380)⟩, ⟨PyData.keyHash P "_law_same", (.str "_law_same" 741), (.ref 387)⟩, ⟨PyData.keyHash P "law", (.str "law" 747), (.ref 392)⟩] : List DictEntry).toArray 48, #[]⟩) ::
 (nat_lit 15, ⟨(.type "tuple"), none, .seq #[] 0, #[]⟩) ::
 (nat_lit 17, ⟨(.type "tuple"), none, .seq #[(.str "k" 190)] 0, #[]⟩) ::
 (nat_lit 18, ⟨(.type "tuple"), none, .seq #[] 0, #[]⟩) ::
 (nat_lit 20, ⟨(.type "code"), none, .fields #[(.str "_wall" 187), (.str "_wall" 188), (.str "/claim/cut.py" 189), (.int (1) 0), (.int (1) 0), (.int (0) 0), (.int (0) 0), (.int (3) 0), (.ref 15), (.bool true), (.int (181) 0), (.ref 16), .none, (.ref 17), (.ref 18), (.ref 19), (.int (191) 0), (.int (1) 0), (.str "/claim/cut.py" 192)], #[]⟩) ::
 (nat_lit 21, ⟨(.type "function"), none, .func ⟨"_wall", "_wall", P0, .stmts B0, S0, 3, [], .none, .none, .none, (.str "__main__" 164), none, (.ref 20), .none, 0⟩, #[]⟩) ::
 (nat_lit 29, ⟨(.type "tuple"), none, .seq #[.none] 0, #[]⟩) ::
 (nat_lit 30, ⟨(.type "tuple"), none, .seq #[] 0, #[]⟩) ::
 (nat_lit 32, ⟨(.type "tuple"), none, .seq #[(.str "self" 211), (.str "op" 212), (.str "place" 213), (.str "type_of" 214), (.str "kids" 215), (.str "value" 216)] 0, #[]⟩) ::
 (nat_lit 33, ⟨(.type "tuple"), none, .seq #[] 0, #[]⟩) ::
 (nat_lit 35, ⟨(.type "code"), none, .fields #[(.str "__init__" 208), (.str "Node.__init__" 209), (.str "/claim/cut.py" 210), (.int (7) 0), (.int (6) 0), (.int (0) 0), (.int (0) 0), (.int (3) 0), (.ref 30), (.bool true), (.int (181) 0), (.ref 31), .none, (.ref 32), (.ref 33), (.ref 34), (.int (217) 0), (.int (7) 0), (.str "/claim/cut.py" 218)], #[]⟩) ::
 (nat_lit 36, ⟨(.type "function"), none, .func ⟨"__init__", "Node.__init__", P2_0, .stmts B2_0, S2_0, 3, [], (.ref 29), .none, .none, (.str "moduleyard.trees" 194), none, (.ref 35), .none, 0⟩, #[]⟩) ::
 (nat_lit 37, ⟨(.type "tuple"), none, .seq #[(.str "kids" 220), (.str "op" 221), (.str "place" 222), (.str "sure" 223), (.str "type" 224), (.str "value" 225)] 0, #[]⟩) ::
 (nat_lit 38, ⟨(.type "dict"), none, .dict ([⟨PyData.keyHash P "__module__", (.str "__module__" 203), (.str "moduleyard.trees" 194)⟩, ⟨PyData.keyHash P "__firstlineno__", (.str "__firstlineno__" 207), (.int (5) 206)⟩, ⟨PyData.keyHash P "__init__", (.str "__init__" 219), (.ref 36)⟩, ⟨PyData.keyHash P "__static_attributes__", (.str "__static_attributes__" 226), (.ref 37)⟩, ⟨PyData.keyHash P "__dict__", (.str "__dict__" 228), (.ref 40)⟩, ⟨PyData.keyHash P "__weakref__", (.str "__weakref__" 230), (.ref 41)⟩, ⟨PyData.keyHash P "__doc__", (.str "__doc__" 231), .none⟩] : List DictEntry).toArray 4, #[]⟩) ::
 (nat_lit 39, ⟨(.type "type"), none, .cls ⟨"Node", [(.type "object")], [(.ref 39), (.type "object")], 38, "Node", true, [], [], false, none, false⟩, #[none, none, some (.str "Node" 196), some (.str "Node" 204), some (.builtin "object.__new__"), some (.bool true)]⟩) ::
 (nat_lit 40, ⟨(.type "getset_descriptor"), none, .fields #[(.str "__dict__" 227), (.ref 39), (.builtin "function.__dict__"), (.builtin "function.__dict__#set")], #[]⟩) ::
 (nat_lit 41, ⟨(.type "getset_descriptor"), none, .fields #[(.str "__weakref__" 229), (.ref 39), (.builtin "ExceptionGroup.__weakref__"), .none], #[]⟩) ::
 (nat_lit 44, ⟨(.type "tuple"), none, .seq #[] 0, #[]⟩) ::
 (nat_lit 46, ⟨(.type "tuple"), none, .seq #[(.str "t" 237), (.str "value" 238), (.str "place" 239)] 0, #[]⟩) ::
 (nat_lit 47, ⟨(.type "tuple"), none, .seq #[] 0, #[]⟩) ::
 (nat_lit 49, ⟨(.type "code"), none, .fields #[(.str "const" 234), (.str "const" 235), (.str "/claim/cut.py" 236), (.int (14) 0), (.int (3) 0), (.int (0) 0), (.int (0) 0), (.int (3) 0), (.ref 44), (.bool true), (.int (181) 0), (.ref 45), .none, (.ref 46), (.ref 47), (.ref 48), (.int (240) 0), (.int (14) 0), (.str "/claim/cut.py" 241)], #[]⟩) ::
 (nat_lit 50, ⟨(.type "function"), none, .func ⟨"const", "const", P3, .stmts B3, S3, 3, [], .none, .none, .none, (.str "moduleyard.trees" 194), none, (.ref 49), .none, 0⟩, #[]⟩) ::
 (nat_lit 51, ⟨(.type "tuple"), none, .seq #[] 0, #[]⟩) ::
 (nat_lit 53, ⟨(.type "tuple"), none, .seq #[(.str "node" 246)] 0, #[]⟩) ::
 (nat_lit 54, ⟨(.type "tuple"), none, .seq #[] 0, #[]⟩) ::
 (nat_lit 56, ⟨(.type "code"), none, .fields #[(.str "is_designator" 243), (.str "is_designator" 244), (.str "/claim/cut.py" 245), (.int (16) 0), (.int (1) 0), (.int (0) 0), (.int (0) 0), (.int (3) 0), (.ref 51), (.bool true), (.int (181) 0), (.ref 52), .none, (.ref 53), (.ref 54), (.ref 55), (.int (247) 0), (.int (16) 0), (.str "/claim/cut.py" 248)], #[]⟩) ::
 (nat_lit 57, ⟨(.type "function"), none, .func ⟨"is_designator", "is_designator", P4, .stmts B4, S4, 3, [], .none, .none, .none, (.str "moduleyard.trees" 194), none, (.ref 56), .none, 0⟩, #[]⟩) ::
 (nat_lit 58, ⟨(.type "tuple"), none, .seq #[] 0, #[]⟩) ::
 (nat_lit 60, ⟨(.type "tuple"), none, .seq #[(.str "node" 253)] 0, #[]⟩) ::
 (nat_lit 61, ⟨(.type "tuple"), none, .seq #[] 0, #[]⟩) ::
 (nat_lit 63, ⟨(.type "code"), none, .fields #[(.str "root_var" 250), (.str "root_var" 251), (.str "/claim/cut.py" 252), (.int (20) 0), (.int (1) 0), (.int (0) 0), (.int (0) 0), (.int (3) 0), (.ref 58), (.bool true), (.int (181) 0), (.ref 59), .none, (.ref 60), (.ref 61), (.ref 62), (.int (254) 0), (.int (20) 0), (.str "/claim/cut.py" 255)], #[]⟩) ::
 (nat_lit 64, ⟨(.type "function"), none, .func ⟨"root_var", "root_var", P5, .stmts B5, S5, 3, [], .none, .none, .none, (.str "moduleyard.trees" 194), none, (.ref 63), .none, 0⟩, #[]⟩) ::
 (nat_lit 65, ⟨(.type "tuple"), none, .seq #[] 0, #[]⟩) ::
 (nat_lit 67, ⟨(.type "tuple"), none, .seq #[(.str "node" 260), (.str "root" 261)] 0, #[]⟩) ::
 (nat_lit 68, ⟨(.type "tuple"), none, .seq #[] 0, #[]⟩) ::
 (nat_lit 70, ⟨(.type "code"), none, .fields #[(.str "is_readonly" 257), (.str "is_readonly" 258), (.str "/claim/cut.py" 259), (.int (26) 0), (.int (1) 0), (.int (0) 0), (.int (0) 0), (.int (3) 0), (.ref 65), (.bool true), (.int (181) 0), (.ref 66), .none, (.ref 67), (.ref 68), (.ref 69), (.int (262) 0), (.int (26) 0), (.str "/claim/cut.py" 263)], #[]⟩) ::
 (nat_lit 71, ⟨(.type "function"), none, .func ⟨"is_readonly", "is_readonly", P6, .stmts B6, S6, 3, [], .none, .none, .none, (.str "moduleyard.trees" 194), none, (.ref 70), .none, 0⟩, #[]⟩) ::
 (nat_lit 72, ⟨(.type "tuple"), none, .seq #[] 0, #[]⟩) ::
 (nat_lit 74, ⟨(.type "tuple"), none, .seq #[(.str "a" 270), (.str "b" 271)] 0, #[]⟩) ::
 (nat_lit 75, ⟨(.type "tuple"), none, .seq #[] 0, #[]⟩) ::
 (nat_lit 77, ⟨(.type "code"), none, .fields #[(.str "same_type" 267), (.str "same_type" 268), (.str "/claim/cut.py" 269), (.int (30) 0), (.int (2) 0), (.int (0) 0), (.int (0) 0), (.int (3) 0), (.ref 72), (.bool true), (.int (181) 0), (.ref 73), .none, (.ref 74), (.ref 75), (.ref 76), (.int (272) 0), (.int (30) 0), (.str "/claim/cut.py" 273)], #[]⟩) ::
 (nat_lit 78, ⟨(.type "function"), none, .func ⟨"same_type", "same_type", P8, .stmts B8, S8, 3, [], .none, .none, .none, (.str "moduleyard.typerel" 265), none, (.ref 77), .none, 0⟩, #[]⟩) ::
 (nat_lit 79, ⟨(.type "tuple"), none, .seq #[] 0, #[]⟩) ::
 (nat_lit 81, ⟨(.type "tuple"), none, .seq #[(.str "t" 278)] 0, #[]⟩) ::
 (nat_lit 82, ⟨(.type "tuple"), none, .seq #[] 0, #[]⟩) ::
 (nat_lit 84, ⟨(.type "code"), none, .fields #[(.str "is_integer" 275), (.str "is_integer" 276), (.str "/claim/cut.py" 277), (.int (32) 0), (.int (1) 0), (.int (0) 0), (.int (0) 0), (.int (3) 0), (.ref 79), (.bool true), (.int (181) 0), (.ref 80), .none, (.ref 81), (.ref 82), (.ref 83), (.int (279) 0), (.int (32) 0), (.str "/claim/cut.py" 280)], #[]⟩) ::
 (nat_lit 85, ⟨(.type "function"), none, .func ⟨"is_integer", "is_integer", P9, .stmts B9, S9, 3, [], .none, .none, .none, (.str "moduleyard.typerel" 265), none, (.ref 84), .none, 0⟩, #[]⟩) ::
 (nat_lit 86, ⟨(.type "tuple"), none, .seq #[] 0, #[]⟩) ::
 (nat_lit 88, ⟨(.type "tuple"), none, .seq #[(.str "t" 285)] 0, #[]⟩) ::
 (nat_lit 89, ⟨(.type "tuple"), none, .seq #[] 0, #[]⟩) ::
 (nat_lit 91, ⟨(.type "code"), none, .fields #[(.str "is_text" 282), (.str "is_text" 283), (.str "/claim/cut.py" 284), (.int (34) 0), (.int (1) 0), (.int (0) 0), (.int (0) 0), (.int (3) 0), (.ref 86), (.bool true), (.int (181) 0), (.ref 87), .none, (.ref 88), (.ref 89), (.ref 90), (.int (286) 0), (.int (34) 0), (.str "/claim/cut.py" 287)], #[]⟩) ::
 (nat_lit 92, ⟨(.type "function"), none, .func ⟨"is_text", "is_text", P10, .stmts B10, S10, 3, [], .none, .none, .none, (.str "moduleyard.typerel" 265), none, (.ref 91), .none, 0⟩, #[]⟩) ::
 (nat_lit 93, ⟨(.type "tuple"), none, .seq #[] 0, #[]⟩) ::
 (nat_lit 95, ⟨(.type "tuple"), none, .seq #[(.str "t" 292)] 0, #[]⟩) ::
 (nat_lit 96, ⟨(.type "tuple"), none, .seq #[] 0, #[]⟩) ::
 (nat_lit 98, ⟨(.type "code"), none, .fields #[(.str "is_open" 289), (.str "is_open" 290), (.str "/claim/cut.py" 291), (.int (36) 0), (.int (1) 0), (.int (0) 0), (.int (0) 0), (.int (3) 0), (.ref 93), (.bool true), (.int (181) 0), (.ref 94), .none, (.ref 95), (.ref 96), (.ref 97), (.int (293) 0), (.int (36) 0), (.str "/claim/cut.py" 294)], #[]⟩) ::
 (nat_lit 99, ⟨(.type "function"), none, .func ⟨"is_open", "is_open", P11, .stmts B11, S11, 3, [], .none, .none, .none, (.str "moduleyard.typerel" 265), none, (.ref 98), .none, 0⟩, #[]⟩) ::
 (nat_lit 100, ⟨(.type "tuple"), none, .seq #[] 0, #[]⟩) ::
 (nat_lit 102, ⟨(.type "tuple"), none, .seq #[(.str "t" 299)] 0, #[]⟩) ::
 (nat_lit 103, ⟨(.type "tuple"), none, .seq #[] 0, #[]⟩) ::
 (nat_lit 105, ⟨(.type "code"), none, .fields #[(.str "record_of" 296), (.str "record_of" 297), (.str "/claim/cut.py" 298), (.int (38) 0), (.int (1) 0), (.int (0) 0), (.int (0) 0), (.int (3) 0), (.ref 100), (.bool true), (.int (181) 0), (.ref 101), .none, (.ref 102), (.ref 103), (.ref 104), (.int (300) 0), (.int (38) 0), (.str "/claim/cut.py" 301)], #[]⟩) ::
 (nat_lit 106, ⟨(.type "function"), none, .func ⟨"record_of", "record_of", P12, .stmts B12, S12, 3, [], .none, .none, .none, (.str "moduleyard.typerel" 265), none, (.ref 105), .none, 0⟩, #[]⟩) ::
 (nat_lit 107, ⟨(.type "tuple"), none, .seq #[] 0, #[]⟩) ::
 (nat_lit 109, ⟨(.type "tuple"), none, .seq #[(.str "a" 306), (.str "b" 307), (.str "one" 308), (.str "wanted" 309)] 0, #[]⟩) ::
 (nat_lit 110, ⟨(.type "tuple"), none, .seq #[] 0, #[]⟩) ::
 (nat_lit 112, ⟨(.type "code"), none, .fields #[(.str "extends" 303), (.str "extends" 304), (.str "/claim/cut.py" 305), (.int (44) 0), (.int (2) 0), (.int (0) 0), (.int (0) 0), (.int (3) 0), (.ref 107), (.bool true), (.int (181) 0), (.ref 108), .none, (.ref 109), (.ref 110), (.ref 111), (.int (310) 0), (.int (44) 0), (.str "/claim/cut.py" 311)], #[]⟩) ::
 (nat_lit 113, ⟨(.type "function"), none, .func ⟨"extends", "extends", P13, .stmts B13, S13, 3, [], .none, .none, .none, (.str "moduleyard.typerel" 265), none, (.ref 112), .none, 0⟩, #[]⟩) ::
 (nat_lit 114, ⟨(.type "tuple"), none, .seq #[] 0, #[]⟩) ::
 (nat_lit 116, ⟨(.type "tuple"), none, .seq #[(.str "a" 316), (.str "b" 317)] 0, #[]⟩) ::
 (nat_lit 117, ⟨(.type "tuple"), none, .seq #[] 0, #[]⟩) ::
 (nat_lit 119, ⟨(.type "code"), none, .fields #[(.str "equal_types" 313), (.str "equal_types" 314), (.str "/claim/cut.py" 315), (.int (56) 0), (.int (2) 0), (.int (0) 0), (.int (0) 0), (.int (3) 0), (.ref 114), (.bool true), (.int (181) 0), (.ref 115), .none, (.ref 116), (.ref 117), (.ref 118), (.int (318) 0), (.int (56) 0), (.str "/claim/cut.py" 319)], #[]⟩) ::
 (nat_lit 120, ⟨(.type "function"), none, .func ⟨"equal_types", "equal_types", P14, .stmts B14, S14, 3, [], .none, .none, .none, (.str "moduleyard.typerel" 265), none, (.ref 119), .none, 0⟩, #[]⟩) ::
 (nat_lit 121, ⟨(.type "tuple"), none, .seq #[] 0, #[]⟩) ::
 (nat_lit 123, ⟨(.type "tuple"), none, .seq #[(.str "a" 324), (.str "b" 325), (.str "place" 326), (.str "one" 327), (.str "other" 328)] 0, #[]⟩) ::
 (nat_lit 124, ⟨(.type "tuple"), none, .seq #[] 0, #[]⟩) ::
 (nat_lit 126, ⟨(.type "code"), none, .fields #[(.str "equal_procs" 321), (.str "equal_procs" 322), (.str "/claim/cut.py" 323), (.int (64) 0), (.int (2) 0), (.int (0) 0), (.int (0) 0), (.int (3) 0), (.ref 121), (.bool true), (.int (181) 0), (.ref 122), .none, (.ref 123), (.ref 124), (.ref 125), (.int (329) 0), (.int (64) 0), (.str "/claim/cut.py" 330)], #[]⟩) ::
 (nat_lit 127, ⟨(.type "function"), none, .func ⟨"equal_procs", "equal_procs", P15, .stmts B15, S15, 3, [], .none, .none, .none, (.str "moduleyard.typerel" 265), none, (.ref 126), .none, 0⟩, #[]⟩) ::
 (nat_lit 128, ⟨(.type "tuple"), none, .seq #[] 0, #[]⟩) ::
 (nat_lit 130, ⟨(.type "tuple"), none, .seq #[(.str "a" 335), (.str "b" 336)] 0, #[]⟩) ::
 (nat_lit 131, ⟨(.type "tuple"), none, .seq #[] 0, #[]⟩) ::
 (nat_lit 133, ⟨(.type "code"), none, .fields #[(.str "equal_arrays" 332), (.str "equal_arrays" 333), (.str "/claim/cut.py" 334), (.int (75) 0), (.int (2) 0), (.int (0) 0), (.int (0) 0), (.int (3) 0), (.ref 128), (.bool true), (.int (181) 0), (.ref 129), .none, (.ref 130), (.ref 131), (.ref 132), (.int (337) 0), (.int (75) 0), (.str "/claim/cut.py" 338)], #[]⟩) ::
 (nat_lit 134, ⟨(.type "function"), none, .func ⟨"equal_arrays", "equal_arrays", P16, .stmts B16, S16, 3, [], .none, .none, .none, (.str "moduleyard.typerel" 265), none, (.ref 133), .none, 0⟩, #[]⟩) ::
 (nat_lit 135, ⟨(.type "tuple"), none, .seq #[] 0, #[]⟩) ::
 (nat_lit 137, ⟨(.type "tuple"), none, .seq #[(.str "t" 343), (.str "length" 344)] 0, #[]⟩) ::
 (nat_lit 138, ⟨(.type "tuple"), none, .seq #[] 0, #[]⟩) ::
 (nat_lit 140, ⟨(.type "code"), none, .fields #[(.str "assignable_string" 340), (.str "assignable_string" 341), (.str "/claim/cut.py" 342), (.int (81) 0), (.int (2) 0), (.int (0) 0), (.int (0) 0), (.int (3) 0), (.ref 135), (.bool true), (.int (181) 0), (.ref 136), .none, (.ref 137), (.ref 138), (.ref 139), (.int (345) 0), (.int (81) 0), (.str "/claim/cut.py" 346)], #[]⟩) ::
 (nat_lit 141, ⟨(.type "function"), none, .func ⟨"assignable_string", "assignable_string", P17, .stmts B17, S17, 3, [], .none, .none, .none, (.str "moduleyard.typerel" 265), none, (.ref 140), .none, 0⟩, #[]⟩) ::
 (nat_lit 142, ⟨(.type "tuple"), none, .seq #[] 0, #[]⟩) ::
 (nat_lit 144, ⟨(.type "tuple"), none, .seq #[(.str "t" 351), (.str "node" 352)] 0, #[]⟩) ::
 (nat_lit 145, ⟨(.type "tuple"), none, .seq #[] 0, #[]⟩) ::
 (nat_lit 147, ⟨(.type "code"), none, .fields #[(.str "assignable_proc" 348), (.str "assignable_proc" 349), (.str "/claim/cut.py" 350), (.int (89) 0), (.int (2) 0), (.int (0) 0), (.int (0) 0), (.int (3) 0), (.ref 142), (.bool true), (.int (181) 0), (.ref 143), .none, (.ref 144), (.ref 145), (.ref 146), (.int (353) 0), (.int (89) 0), (.str "/claim/cut.py" 354)], #[]⟩) ::
 (nat_lit 148, ⟨(.type "function"), none, .func ⟨"assignable_proc", "assignable_proc", P18, .stmts B18, S18, 3, [], .none, .none, .none, (.str "moduleyard.typerel" 265), none, (.ref 147), .none, 0⟩, #[]⟩) ::
 (nat_lit 149, ⟨(.type "tuple"), none, .seq #[] 0, #[]⟩) ::
 (nat_lit 151, ⟨(.type "tuple"), none, .seq #[(.str "t" 359), (.str "node" 360), (.str "v" 361)] 0, #[]⟩) ::
 (nat_lit 152, ⟨(.type "tuple"), none, .seq #[] 0, #[]⟩) ::
 (nat_lit 154, ⟨(.type "code"), none, .fields #[(.str "assignable" 356), (.str "assignable" 357), (.str "/claim/cut.py" 358), (.int (93) 0), (.int (2) 0), (.int (0) 0), (.int (0) 0), (.int (3) 0), (.ref 149), (.bool true), (.int (181) 0), (.ref 150), .none, (.ref 151), (.ref 152), (.ref 153), (.int (362) 0), (.int (93) 0), (.str "/claim/cut.py" 363)], #[]⟩) ::
 (nat_lit 155, ⟨(.type "function"), none, .func ⟨"assignable", "assignable", P19, .stmts B19, S19, 3, [], .none, .none, .none, (.str "moduleyard.typerel" 265), none, (.ref 154), .none, 0⟩, #[]⟩) ::
 (nat_lit 156, ⟨(.type "tuple"), none, .seq #[] 0, #[]⟩) ::
 (nat_lit 158, ⟨(.type "tuple"), none, .seq #[(.str "t" 368), (.str "node" 369), (.str "v" 370), (.str "fits" 371)] 0, #[]⟩) ::
 (nat_lit 159, ⟨(.type "tuple"), none, .seq #[] 0, #[]⟩) ::
 (nat_lit 161, ⟨(.type "code"), none, .fields #[(.str "passable_variable" 365), (.str "passable_variable" 366), (.str "/claim/cut.py" 367), (.int (108) 0), (.int (2) 0), (.int (0) 0), (.int (0) 0), (.int (3) 0), (.ref 156), (.bool true), (.int (181) 0), (.ref 157), .none, (.ref 158), (.ref 159), (.ref 160), (.int (372) 0), (.int (108) 0), (.str "/claim/cut.py" 373)], #[]⟩) ::
 (nat_lit 162, ⟨(.type "function"), none, .func ⟨"passable_variable", "passable_variable", P20, .stmts B20, S20, 3, [], .none, .none, .none, (.str "moduleyard.typerel" 265), none, (.ref 161), .none, 0⟩, #[]⟩) ::
 (nat_lit 163, ⟨(.type "tuple"), none, .seq #[] 0, #[]⟩) ::
 (nat_lit 165, ⟨(.type "tuple"), none, .seq #[(.str "t" 378), (.str "node" 379), (.str "v" 380), (.str "fits" 381)] 0, #[]⟩) ::
 (nat_lit 166, ⟨(.type "tuple"), none, .seq #[] 0, #[]⟩) ::
 (nat_lit 168, ⟨(.type "code"), none, .fields #[(.str "passable_structure" 375), (.str "passable_structure" 376), (.str "/claim/cut.py" 377), (.int (121) 0), (.int (2) 0), (.int (0) 0), (.int (0) 0), (.int (3) 0), (.ref 163), (.bool true), (.int (181) 0), (.ref 164), .none, (.ref 165), (.ref 166), (.ref 167), (.int (382) 0), (.int (121) 0), (.str "/claim/cut.py" 383)], #[]⟩) ::
 (nat_lit 169, ⟨(.type "function"), none, .func ⟨"passable_structure", "passable_structure", P21, .stmts B21, S21, 3, [], .none, .none, .none, (.str "moduleyard.typerel" 265), none, (.ref 168), .none, 0⟩, #[]⟩) ::
 (nat_lit 170, ⟨(.type "tuple"), none, .seq #[] 0, #[]⟩) ::
 (nat_lit 172, ⟨(.type "tuple"), none, .seq #[(.str "par" 388), (.str "node" 389)] 0, #[]⟩) ::
 (nat_lit 173, ⟨(.type "tuple"), none, .seq #[] 0, #[]⟩) ::
 (nat_lit 175, ⟨(.type "code"), none, .fields #[(.str "passable" 385), (.str "passable" 386), (.str "/claim/cut.py" 387), (.int (132) 0), (.int (2) 0), (.int (0) 0), (.int (0) 0), (.int (3) 0), (.ref 170), (.bool true), (.int (181) 0), (.ref 171), .none, (.ref 172), (.ref 173), (.ref 174), (.int (390) 0), (.int (132) 0), (.str "/claim/cut.py" 391)], #[]⟩) ::
 (nat_lit 176, ⟨(.type "function"), none, .func ⟨"passable", "passable", P22, .stmts B22, S22, 3, [], .none, .none, .none, (.str "moduleyard.typerel" 265), none, (.ref 175), .none, 0⟩, #[]⟩) ::
 (nat_lit 177, ⟨(.type "tuple"), none, .seq #[] 0, #[]⟩) ::
 (nat_lit 179, ⟨(.type "tuple"), none, .seq #[(.str "types" 398), (.str "errors" 399), (.str "t" 400), (.str "node" 401), (.str "place" 402), (.str "letter" 403)] 0, #[]⟩) ::
 (nat_lit 180, ⟨(.type "tuple"), none, .seq #[] 0, #[]⟩) ::
 (nat_lit 182, ⟨(.type "code"), none, .fields #[(.str "convert" 395), (.str "convert" 396), (.str "/claim/cut.py" 397), (.int (139) 0), (.int (5) 0), (.int (0) 0), (.int (0) 0), (.int (3) 0), (.ref 177), (.bool true), (.int (181) 0), (.ref 178), .none, (.ref 179), (.ref 180), (.ref 181), (.int (404) 0), (.int (139) 0), (.str "/claim/cut.py" 405)], #[]⟩) ::
 (nat_lit 183, ⟨(.type "function"), none, .func ⟨"convert", "convert", P24, .stmts B24, S24, 3, [], .none, .none, .none, (.str "moduleyard.checkassign" 393), none, (.ref 182), .none, 0⟩, #[]⟩) ::
 (nat_lit 184, ⟨(.type "tuple"), none, .seq #[] 0, #[]⟩) ::
 (nat_lit 186, ⟨(.type "tuple"), none, .seq #[(.str "types" 410), (.str "errors" 411), (.str "left" 412), (.str "right" 413), (.str "place" 414), (.str "code" 415)] 0, #[]⟩) ::
 (nat_lit 187, ⟨(.type "tuple"), none, .seq #[] 0, #[]⟩) ::
 (nat_lit 189, ⟨(.type "code"), none, .fields #[(.str "assignment" 407), (.str "assignment" 408), (.str "/claim/cut.py" 409), (.int (144) 0), (.int (5) 0), (.int (0) 0), (.int (0) 0), (.int (3) 0), (.ref 184), (.bool true), (.int (181) 0), (.ref 185), .none, (.ref 186), (.ref 187), (.ref 188), (.int (416) 0), (.int (144) 0), (.str "/claim/cut.py" 417)], #[]⟩) ::
 (nat_lit 190, ⟨(.type "function"), none, .func ⟨"assignment", "assignment", P25, .stmts B25, S25, 3, [], .none, .none, .none, (.str "moduleyard.checkassign" 393), none, (.ref 189), .none, 0⟩, #[]⟩) ::
 (nat_lit 191, ⟨(.type "tuple"), none, .seq #[] 0, #[]⟩) ::
 (nat_lit 193, ⟨(.type "tuple"), none, .seq #[(.str "types" 422), (.str "errors" 423), (.str "node" 424)] 0, #[]⟩) ::
 (nat_lit 194, ⟨(.type "tuple"), none, .seq #[] 0, #[]⟩) ::
 (nat_lit 196, ⟨(.type "code"), none, .fields #[(.str "condition" 419), (.str "condition" 420), (.str "/claim/cut.py" 421), (.int (155) 0), (.int (3) 0), (.int (0) 0), (.int (0) 0), (.int (3) 0), (.ref 191), (.bool true), (.int (181) 0), (.ref 192), .none, (.ref 193), (.ref 194), (.ref 195), (.int (425) 0), (.int (155) 0), (.str "/claim/cut.py" 426)], #[]⟩) ::
 (nat_lit 197, ⟨(.type "function"), none, .func ⟨"condition", "condition", P26, .stmts B26, S26, 3, [], .none, .none, .none, (.str "moduleyard.checkassign" 393), none, (.ref 196), .none, 0⟩, #[]⟩) ::
 (nat_lit 198, ⟨(.type "tuple"), none, .seq #[] 0, #[]⟩) ::
 (nat_lit 200, ⟨(.type "tuple"), none, .seq #[(.str "types" 431), (.str "errors" 432), (.str "par" 433), (.str "node" 434), (.str "code" 435)] 0, #[]⟩) ::
 (nat_lit 201, ⟨(.type "tuple"), none, .seq #[] 0, #[]⟩) ::
 (nat_lit 203, ⟨(.type "code"), none, .fields #[(.str "argument" 428), (.str "argument" 429), (.str "/claim/cut.py" 430), (.int (160) 0), (.int (4) 0), (.int (0) 0), (.int (0) 0), (.int (3) 0), (.ref 198), (.bool true), (.int (181) 0), (.ref 199), .none, (.ref 200), (.ref 201), (.ref 202), (.int (436) 0), (.int (160) 0), (.str "/claim/cut.py" 437)], #[]⟩) ::
 (nat_lit 204, ⟨(.type "function"), none, .func ⟨"argument", "argument", P27, .stmts B27, S27, 3, [], .none, .none, .none, (.str "moduleyard.checkassign" 393), none, (.ref 203), .none, 0⟩, #[]⟩) ::
 (nat_lit 205, ⟨(.type "tuple"), none, .seq #[] 0, #[]⟩) ::
 (nat_lit 207, ⟨(.type "tuple"), none, .seq #[(.str "result" 442), (.str "as_statement" 443)] 0, #[]⟩) ::
 (nat_lit 208, ⟨(.type "tuple"), none, .seq #[] 0, #[]⟩) ::
 (nat_lit 210, ⟨(.type "code"), none, .fields #[(.str "use_code" 439), (.str "use_code" 440), (.str "/claim/cut.py" 441), (.int (166) 0), (.int (2) 0), (.int (0) 0), (.int (0) 0), (.int (3) 0), (.ref 205), (.bool true), (.int (181) 0), (.ref 206), .none, (.ref 207), (.ref 208), (.ref 209), (.int (444) 0), (.int (166) 0), (.str "/claim/cut.py" 445)], #[]⟩) ::
 (nat_lit 211, ⟨(.type "function"), none, .func ⟨"use_code", "use_code", P28, .stmts B28, S28, 3, [], .none, .none, .none, (.str "moduleyard.checkassign" 393), none, (.ref 210), .none, 0⟩, #[]⟩) ::
 (nat_lit 212, ⟨(.type "tuple"), none, .seq #[] 0, #[]⟩) ::
 (nat_lit 214, ⟨(.type "tuple"), none, .seq #[(.str "types" 450), (.str "errors" 451), (.str "designator" 452), (.str "arguments" 453), (.str "place" 454), (.str "as_statement" 455), (.str "t" 456), (.str "code" 457), (.str "kids" 458), (.str "spot" 459)] 0, #[]⟩) ::
 (nat_lit 215, ⟨(.type "tuple"), none, .seq #[] 0, #[]⟩) ::
 (nat_lit 217, ⟨(.type "code"), none, .fields #[(.str "call_node" 447), (.str "call_node" 448), (.str "/claim/cut.py" 449), (.int (172) 0), (.int (6) 0), (.int (0) 0), (.int (0) 0), (.int (3) 0), (.ref 212), (.bool true), (.int (181) 0), (.ref 213), .none, (.ref 214), (.ref 215), (.ref 216), (.int (460) 0), (.int (172) 0), (.str "/claim/cut.py" 461)], #[]⟩) ::
 (nat_lit 218, ⟨(.type "function"), none, .func ⟨"call_node", "call_node", P29, .stmts B29, S29, 3, [], .none, .none, .none, (.str "moduleyard.checkassign" 393), none, (.ref 217), .none, 0⟩, #[]⟩) ::
 (nat_lit 226, ⟨(.type "tuple"), none, .seq #[] 0, #[]⟩) ::
 (nat_lit 228, ⟨(.type "tuple"), none, .seq #[(.str "self" 480)] 0, #[]⟩) ::
 (nat_lit 229, ⟨(.type "tuple"), none, .seq #[] 0, #[]⟩) ::
 (nat_lit 231, ⟨(.type "code"), none, .fields #[(.str "__init__" 477), (.str "ErrorList.__init__" 478), (.str "/claim/cut.py" 479), (.int (195) 0), (.int (1) 0), (.int (0) 0), (.int (0) 0), (.int (3) 0), (.ref 226), (.bool true), (.int (181) 0), (.ref 227), .none, (.ref 228), (.ref 229), (.ref 230), (.int (481) 0), (.int (195) 0), (.str "/claim/cut.py" 482)], #[]⟩) ::
 (nat_lit 232, ⟨(.type "function"), none, .func ⟨"__init__", "ErrorList.__init__", P31_0, .stmts B31_0, S31_0, 3, [], .none, .none, .none, (.str "moduleyard.errors" 463), none, (.ref 231), .none, 0⟩, #[]⟩) ::
 (nat_lit 233, ⟨(.type "tuple"), none, .seq #[] 0, #[]⟩) ::
 (nat_lit 235, ⟨(.type "tuple"), none, .seq #[(.str "self" 487), (.str "place" 488), (.str "code" 489)] 0, #[]⟩) ::
 (nat_lit 236, ⟨(.type "tuple"), none, .seq #[] 0, #[]⟩) ::
 (nat_lit 238, ⟨(.type "code"), none, .fields #[(.str "mark" 484), (.str "ErrorList.mark" 485), (.str "/claim/cut.py" 486), (.int (199) 0), (.int (3) 0), (.int (0) 0), (.int (0) 0), (.int (3) 0), (.ref 233), (.bool true), (.int (181) 0), (.ref 234), .none, (.ref 235), (.ref 236), (.ref 237), (.int (490) 0), (.int (199) 0), (.str "/claim/cut.py" 491)], #[]⟩) ::
 (nat_lit 239, ⟨(.type "function"), none, .func ⟨"mark", "ErrorList.mark", P31_1, .stmts B31_1, S31_1, 3, [], .none, .none, .none, (.str "moduleyard.errors" 463), none, (.ref 238), .none, 0⟩, #[]⟩) ::
 (nat_lit 240, ⟨(.type "tuple"), none, .seq #[] 0, #[]⟩) ::
 (nat_lit 242, ⟨(.type "tuple"), none, .seq #[(.str "self" 496)] 0, #[]⟩) ::
 (nat_lit 243, ⟨(.type "tuple"), none, .seq #[] 0, #[]⟩) ::
 (nat_lit 245, ⟨(.type "code"), none, .fields #[(.str "first" 493), (.str "ErrorList.first" 494), (.str "/claim/cut.py" 495), (.int (204) 0), (.int (1) 0), (.int (0) 0), (.int (0) 0), (.int (3) 0), (.ref 240), (.bool true), (.int (181) 0), (.ref 241), .none, (.ref 242), (.ref 243), (.ref 244), (.int (497) 0), (.int (204) 0), (.str "/claim/cut.py" 498)], #[]⟩) ::
 (nat_lit 246, ⟨(.type "function"), none, .func ⟨"first", "ErrorList.first", P31_2, .stmts B31_2, S31_2, 3, [], .none, .none, .none, (.str "moduleyard.errors" 463), none, (.ref 245), .none, 0⟩, #[]⟩) ::
 (nat_lit 247, ⟨(.type "tuple"), none, .seq #[] 0, #[]⟩) ::
 (nat_lit 249, ⟨(.type "tuple"), none, .seq #[(.str "self" 503)] 0, #[]⟩) ::
 (nat_lit 250, ⟨(.type "tuple"), none, .seq #[] 0, #[]⟩) ::
 (nat_lit 252, ⟨(.type "code"), none, .fields #[(.str "ok" 500), (.str "ErrorList.ok" 501), (.str "/claim/cut.py" 502), (.int (207) 0), (.int (1) 0), (.int (0) 0), (.int (0) 0), (.int (3) 0), (.ref 247), (.bool true), (.int (181) 0), (.ref 248), .none, (.ref 249), (.ref 250), (.ref 251), (.int (504) 0), (.int (207) 0), (.str "/claim/cut.py" 505)], #[]⟩) ::
 (nat_lit 253, ⟨(.type "function"), none, .func ⟨"ok", "ErrorList.ok", P31_3, .stmts B31_3, S31_3, 3, [], .none, .none, .none, (.str "moduleyard.errors" 463), none, (.ref 252), .none, 0⟩, #[]⟩) ::
 (nat_lit 254, ⟨(.type "tuple"), none, .seq #[(.str "places" 507), (.str "rows" 508)] 0, #[]⟩) ::
 (nat_lit 255, ⟨(.type "dict"), none, .dict ([⟨PyData.keyHash P "__module__", (.str "__module__" 472), (.str "moduleyard.errors" 463)⟩, ⟨PyData.keyHash P "__firstlineno__", (.str "__firstlineno__" 476), (.int (193) 475)⟩, ⟨PyData.keyHash P "__init__", (.str "__init__" 483), (.ref 232)⟩, ⟨PyData.keyHash P "mark", (.str "mark" 492), (.ref 239)⟩, ⟨PyData.keyHash P "first", (.str "first" 499), (.ref 246)⟩, ⟨PyData.keyHash P "ok", (.str "ok" 506), (.ref 253)⟩, ⟨PyData.keyHash P "__static_attributes__", (.str "__static_attributes__" 509), (.ref 254)⟩, ⟨PyData.keyHash P "__dict__", (.str "__dict__" 511), (.ref 257)⟩, ⟨PyData.keyHash P "__weakref__", (.str "__weakref__" 513), (.ref 258)⟩, ⟨PyData.keyHash P "__doc__", (.str "__doc__" 514), .none⟩] : List DictEntry).toArray 4, #[]⟩) ::
 (nat_lit 256, ⟨(.type "type"), none, .cls ⟨"ErrorList", [(.type "object")], [(.ref 256), (.type "object")], 255, "ErrorList", true, [], [], false, none, false⟩, #[none, none, some (.str "ErrorList" 465), some (.str "ErrorList" 473), some (.builtin "object.__new__"), some (.bool true)]⟩) ::
 (nat_lit 257, ⟨(.type "getset_descriptor"), none, .fields #[(.str "__dict__" 510), (.ref 256), (.builtin "function.__dict__"), (.builtin "function.__dict__#set")], #[]⟩) ::
 (nat_lit 258, ⟨(.type "getset_descriptor"), none, .fields #[(.str "__weakref__" 512), (.ref 256), (.builtin "ExceptionGroup.__weakref__"), .none], #[]⟩) ::
 (nat_lit 268, ⟨(.type "tuple"), none, .seq #[] 0, #[]⟩) ::
 (nat_lit 270, ⟨(.type "tuple"), none, .seq #[(.str "self" 534), (.str "number" 535), (.str "form" 536), (.str "size" 537)] 0, #[]⟩) ::
 (nat_lit 271, ⟨(.type "tuple"), none, .seq #[] 0, #[]⟩) ::
 (nat_lit 273, ⟨(.type "code"), none, .fields #[(.str "__init__" 531), (.str "Type.__init__" 532), (.str "/claim/cut.py" 533), (.int (212) 0), (.int (4) 0), (.int (0) 0), (.int (0) 0), (.int (3) 0), (.ref 268), (.bool true), (.int (181) 0), (.ref 269), .none, (.ref 270), (.ref 271), (.ref 272), (.int (538) 0), (.int (212) 0), (.str "/claim/cut.py" 539)], #[]⟩) ::
 (nat_lit 274, ⟨(.type "function"), none, .func ⟨"__init__", "Type.__init__", P33_0, .stmts B33_0, S33_0, 3, [], .none, .none, .none, (.str "moduleyard.types" 517), none, (.ref 273), .none, 0⟩, #[]⟩) ::
 (nat_lit 275, ⟨(.type "tuple"), none, .seq #[(.str "base" 541), (.str "exno" 542), (.str "fields" 543), (.str "form" 544), (.str "hidden" 545), (.str "label" 546), (.str "length" 547), (.str "level" 548), (.str "module" 549), (.str "number" 550), (.str "params" 551), (.str "size" 552)] 0, #[]⟩) ::
 (nat_lit 276, ⟨(.type "dict"), none, .dict ([⟨PyData.keyHash P "__module__", (.str "__module__" 526), (.str "moduleyard.types" 517)⟩, ⟨PyData.keyHash P "__firstlineno__", (.str "__firstlineno__" 530), (.int (210) 529)⟩, ⟨PyData.keyHash P "__init__", (.str "__init__" 540), (.ref 274)⟩, ⟨PyData.keyHash P "__static_attributes__", (.str "__static_attributes__" 553), (.ref 275)⟩, ⟨PyData.keyHash P "__dict__", (.str "__dict__" 555), (.ref 278)⟩, ⟨PyData.keyHash P "__weakref__", (.str "__weakref__" 557), (.ref 279)⟩, ⟨PyData.keyHash P "__doc__", (.str "__doc__" 558), .none⟩] : List DictEntry).toArray 4, #[]⟩) ::
 (nat_lit 277, ⟨(.type "type"), none, .cls ⟨"Type", [(.type "object")], [(.ref 277), (.type "object")], 276, "Type", true, [], [], false, none, false⟩, #[none, none, some (.str "Type" 519), some (.str "Type" 527), some (.builtin "object.__new__"), some (.bool true)]⟩) ::
 (nat_lit 278, ⟨(.type "getset_descriptor"), none, .fields #[(.str "__dict__" 554), (.ref 277), (.builtin "function.__dict__"), (.builtin "function.__dict__#set")], #[]⟩) ::
 (nat_lit 279, ⟨(.type "getset_descriptor"), none, .fields #[(.str "__weakref__" 556), (.ref 277), (.builtin "ExceptionGroup.__weakref__"), .none], #[]⟩) ::
 (nat_lit 289, ⟨(.type "tuple"), none, .seq #[] 0, #[]⟩) ::
 (nat_lit 291, ⟨(.type "tuple"), none, .seq #[(.str "self" 576), (.str "name" 577), (.str "kind" 578), (.str "type_of" 579), (.str "place" 580)] 0, #[]⟩) ::
 (nat_lit 292, ⟨(.type "tuple"), none, .seq #[] 0, #[]⟩) ::
 (nat_lit 294, ⟨(.type "code"), none, .fields #[(.str "__init__" 573), (.str "Obj.__init__" 574), (.str "/claim/cut.py" 575), (.int (227) 0), (.int (5) 0), (.int (0) 0), (.int (0) 0), (.int (3) 0), (.ref 289), (.bool true), (.int (181) 0), (.ref 290), .none, (.ref 291), (.ref 292), (.ref 293), (.int (581) 0), (.int (227) 0), (.str "/claim/cut.py" 582)], #[]⟩) ::
 (nat_lit 295, ⟨(.type "function"), none, .func ⟨"__init__", "Obj.__init__", P34_0, .stmts B34_0, S34_0, 3, [], .none, .none, .none, (.str "moduleyard.types" 517), none, (.ref 294), .none, 0⟩, #[]⟩) ::
 (nat_lit 296, ⟨(.type "tuple"), none, .seq #[(.str "exported" 584), (.str "isparam" 585), (.str "kind" 586), (.str "level" 587), (.str "module" 588), (.str "name" 589), (.str "narrowed" 590), (.str "number" 591), (.str "offset" 592), (.str "place" 593), (.str "readonly" 594), (.str "slot" 595), (.str "type" 596), (.str "value" 597)] 0, #[]⟩) ::
 (nat_lit 297, ⟨(.type "dict"), none, .dict ([⟨PyData.keyHash P "__module__", (.str "__module__" 568), (.str "moduleyard.types" 517)⟩, ⟨PyData.keyHash P "__firstlineno__", (.str "__firstlineno__" 572), (.int (225) 571)⟩, ⟨PyData.keyHash P "__init__", (.str "__init__" 583), (.ref 295)⟩, ⟨PyData.keyHash P "__static_attributes__", (.str "__static_attributes__" 598), (.ref 296)⟩, ⟨PyData.keyHash P "__dict__", (.str "__dict__" 600), (.ref 299)⟩, ⟨PyData.keyHash P "__weakref__", (.str "__weakref__" 602), (.ref 300)⟩, ⟨PyData.keyHash P "__doc__", (.str "__doc__" 603), .none⟩] : List DictEntry).toArray 4, #[]⟩) ::
 (nat_lit 298, ⟨(.type "type"), none, .cls ⟨"Obj", [(.type "object")], [(.ref 298), (.type "object")], 297, "Obj", true, [], [], false, none, false⟩, #[none, none, some (.str "Obj" 561), some (.str "Obj" 569), some (.builtin "object.__new__"), some (.bool true)]⟩) ::
 (nat_lit 299, ⟨(.type "getset_descriptor"), none, .fields #[(.str "__dict__" 599), (.ref 298), (.builtin "function.__dict__"), (.builtin "function.__dict__#set")], #[]⟩) ::
 (nat_lit 300, ⟨(.type "getset_descriptor"), none, .fields #[(.str "__weakref__" 601), (.ref 298), (.builtin "ExceptionGroup.__weakref__"), .none], #[]⟩) ::
 (nat_lit 310, ⟨(.type "tuple"), none, .seq #[] 0, #[]⟩) ::
 (nat_lit 312, ⟨(.type "tuple"), none, .seq #[(.str "self" 621)] 0, #[]⟩) ::
 (nat_lit 313, ⟨(.type "tuple"), none, .seq #[] 0, #[]⟩) ::
 (nat_lit 315, ⟨(.type "code"), none, .fields #[(.str "__init__" 618), (.str "Types.__init__" 619), (.str "/claim/cut.py" 620), (.int (244) 0), (.int (1) 0), (.int (0) 0), (.int (0) 0), (.int (3) 0), (.ref 310), (.bool true), (.int (181) 0), (.ref 311), .none, (.ref 312), (.ref 313), (.ref 314), (.int (622) 0), (.int (244) 0), (.str "/claim/cut.py" 623)], #[]⟩) ::
 (nat_lit 316, ⟨(.type "function"), none, .func ⟨"__init__", "Types.__init__", P35_0, .stmts B35_0, S35_0, 3, [], .none, .none, .none, (.str "moduleyard.types" 517), none, (.ref 315), .none, 0⟩, #[]⟩) ::
 (nat_lit 317, ⟨(.type "tuple"), none, .seq #[(.str "" 625), (.str "" 626)] 0, #[]⟩) ::
 (nat_lit 318, ⟨(.type "tuple"), none, .seq #[] 0, #[]⟩) ::
 (nat_lit 320, ⟨(.type "tuple"), none, .seq #[(.str "self" 630), (.str "form" 631), (.str "size" 632), (.str "module" 633), (.str "label" 634), (.str "made" 635)] 0, #[]⟩) ::
 (nat_lit 321, ⟨(.type "tuple"), none, .seq #[] 0, #[]⟩) ::
 (nat_lit 323, ⟨(.type "code"), none, .fields #[(.str "new" 627), (.str "Types.new" 628), (.str "/claim/cut.py" 629), (.int (255) 0), (.int (5) 0), (.int (0) 0), (.int (0) 0), (.int (3) 0), (.ref 318), (.bool true), (.int (181) 0), (.ref 319), .none, (.ref 320), (.ref 321), (.ref 322), (.int (636) 0), (.int (255) 0), (.str "/claim/cut.py" 637)], #[]⟩) ::
 (nat_lit 324, ⟨(.type "function"), none, .func ⟨"new", "Types.new", P35_1, .stmts B35_1, S35_1, 3, [], (.ref 317), .none, .none, (.str "moduleyard.types" 517), none, (.ref 323), .none, 0⟩, #[]⟩) ::
 (nat_lit 325, ⟨(.type "tuple"), none, .seq #[] 0, #[]⟩) ::
 (nat_lit 327, ⟨(.type "tuple"), none, .seq #[(.str "self" 642), (.str "length" 643), (.str "made" 644)] 0, #[]⟩) ::
 (nat_lit 328, ⟨(.type "tuple"), none, .seq #[] 0, #[]⟩) ::
 (nat_lit 330, ⟨(.type "code"), none, .fields #[(.str "string" 639), (.str "Types.string" 640), (.str "/claim/cut.py" 641), (.int (264) 0), (.int (2) 0), (.int (0) 0), (.int (0) 0), (.int (3) 0), (.ref 325), (.bool true), (.int (181) 0), (.ref 326), .none, (.ref 327), (.ref 328), (.ref 329), (.int (645) 0), (.int (264) 0), (.str "/claim/cut.py" 646)], #[]⟩) ::
 (nat_lit 331, ⟨(.type "function"), none, .func ⟨"string", "Types.string", P35_2, .stmts B35_2, S35_2, 3, [], .none, .none, .none, (.str "moduleyard.types" 517), none, (.ref 330), .none, 0⟩, #[]⟩) ::
 (nat_lit 332, ⟨(.type "tuple"), none, .seq #[(.str "boolean" 648), (.str "byte" 649), (.str "char" 650), (.str "counter" 651), (.str "integer" 652), (.str "known" 653), (.str "mask" 654), (.str "nil" 655), (.str "none" 656)] 0, #[]⟩) ::
 (nat_lit 333, ⟨(.type "dict"), none, .dict ([⟨PyData.keyHash P "__module__", (.str "__module__" 613), (.str "moduleyard.types" 517)⟩, ⟨PyData.keyHash P "__firstlineno__", (.str "__firstlineno__" 617), (.int (242) 616)⟩, ⟨PyData.keyHash P "__init__", (.str "__init__" 624), (.ref 316)⟩, ⟨PyData.keyHash P "new", (.str "new" 638), (.ref 324)⟩, ⟨PyData.keyHash P "string", (.str "string" 647), (.ref 331)⟩, ⟨PyData.keyHash P "__static_attributes__", (.str "__static_attributes__" 657), (.ref 332)⟩, ⟨PyData.keyHash P "__dict__", (.str "__dict__" 659), (.ref 335)⟩, ⟨PyData.keyHash P "__weakref__", (.str "__weakref__" 661), (.ref 336)⟩, ⟨PyData.keyHash P "__doc__", (.str "__doc__" 662), .none⟩] : List DictEntry).toArray 4, #[]⟩) ::
 (nat_lit 334, ⟨(.type "type"), none, .cls ⟨"Types", [(.type "object")], [(.ref 334), (.type "object")], 333, "Types", true, [], [], false, none, false⟩, #[none, none, some (.str "Types" 606), some (.str "Types" 614), some (.builtin "object.__new__"), some (.bool true)]⟩) ::
 (nat_lit 335, ⟨(.type "getset_descriptor"), none, .fields #[(.str "__dict__" 658), (.ref 334), (.builtin "function.__dict__"), (.builtin "function.__dict__#set")], #[]⟩) ::
 (nat_lit 336, ⟨(.type "getset_descriptor"), none, .fields #[(.str "__weakref__" 660), (.ref 334), (.builtin "ExceptionGroup.__weakref__"), .none], #[]⟩) ::
 (nat_lit 339, ⟨(.type "tuple"), none, .seq #[] 0, #[]⟩) ::
 (nat_lit 341, ⟨(.type "tuple"), none, .seq #[(.str "script" 670), (.str "figures" 671), (.str "mix" 672), (.str "cell" 673), (.str "big" 674), (.str "rest" 675), (.str "step" 676)] 0, #[]⟩) ::
 (nat_lit 342, ⟨(.type "tuple"), none, .seq #[] 0, #[]⟩) ::
 (nat_lit 344, ⟨(.type "code"), none, .fields #[(.str "_law_pool" 667), (.str "_law_pool" 668), (.str "/claim/cut.py" 669), (.int (270) 0), (.int (1) 0), (.int (0) 0), (.int (0) 0), (.int (3) 0), (.ref 339), (.bool true), (.int (181) 0), (.ref 340), .none, (.ref 341), (.ref 342), (.ref 343), (.int (677) 0), (.int (270) 0), (.str "/claim/cut.py" 678)], #[]⟩) ::
 (nat_lit 345, ⟨(.type "function"), none, .func ⟨"_law_pool", "_law_pool", P37, .stmts B37, S37, 3, [], .none, .none, .none, (.str "law_nu0337_01" 665), none, (.ref 344), .none, 0⟩, #[]⟩) ::
 (nat_lit 346, ⟨(.type "tuple"), none, .seq #[] 0, #[]⟩) ::
 (nat_lit 348, ⟨(.type "tuple"), none, .seq #[(.str "pool" 683), (.str "bound_x" 684), (.str "figure" 685)] 0, #[]⟩) ::
 (nat_lit 349, ⟨(.type "tuple"), none, .seq #[] 0, #[]⟩) ::
 (nat_lit 351, ⟨(.type "code"), none, .fields #[(.str "_law_pick" 680), (.str "_law_pick" 681), (.str "/claim/cut.py" 682), (.int (285) 0), (.int (2) 0), (.int (0) 0), (.int (0) 0), (.int (3) 0), (.ref 346), (.bool true), (.int (181) 0), (.ref 347), .none, (.ref 348), (.ref 349), (.ref 350), (.int (686) 0), (.int (285) 0), (.str "/claim/cut.py" 687)], #[]⟩) ::
 (nat_lit 352, ⟨(.type "function"), none, .func ⟨"_law_pick", "_law_pick", P38, .stmts B38, S38, 3, [], .none, .none, .none, (.str "law_nu0337_01" 665), none, (.ref 351), .none, 0⟩, #[]⟩) ::
 (nat_lit 353, ⟨(.type "tuple"), none, .seq #[] 0, #[]⟩) ::
 (nat_lit 355, ⟨(.type "tuple"), none, .seq #[(.str "types" 692), (.str "made" 693), (.str "open_of" 694)] 0, #[]⟩) ::
 (nat_lit 356, ⟨(.type "tuple"), none, .seq #[] 0, #[]⟩) ::
 (nat_lit 358, ⟨(.type "code"), none, .fields #[(.str "_law_world" 689), (.str "_law_world" 690), (.str "/claim/cut.py" 691), (.int (295) 0), (.int (1) 0), (.int (0) 0), (.int (0) 0), (.int (3) 0), (.ref 353), (.bool true), (.int (181) 0), (.ref 354), .none, (.ref 355), (.ref 356), (.ref 357), (.int (695) 0), (.int (295) 0), (.str "/claim/cut.py" 696)], #[]⟩) ::
 (nat_lit 359, ⟨(.type "function"), none, .func ⟨"_law_world", "_law_world", P39, .stmts B39, S39, 3, [], .none, .none, .none, (.str "law_nu0337_01" 665), none, (.ref 358), .none, 0⟩, #[]⟩) ::
 (nat_lit 360, ⟨(.type "tuple"), none, .seq #[] 0, #[]⟩) ::
 (nat_lit 362, ⟨(.type "tuple"), none, .seq #[(.str "pool" 701), (.str "types" 702), (.str "rows" 703), (.str "spot" 704), (.str "way" 705), (.str "text_of_x" 706), (.str "t" 707), (.str "held" 708)] 0, #[]⟩) ::
 (nat_lit 363, ⟨(.type "tuple"), none, .seq #[] 0, #[]⟩) ::
 (nat_lit 365, ⟨(.type "code"), none, .fields #[(.str "_law_side" 698), (.str "_law_side" 699), (.str "/claim/cut.py" 700), (.int (301) 0), (.int (4) 0), (.int (0) 0), (.int (0) 0), (.int (3) 0), (.ref 360), (.bool true), (.int (181) 0), (.ref 361), .none, (.ref 362), (.ref 363), (.ref 364), (.int (709) 0), (.int (301) 0), (.str "/claim/cut.py" 710)], #[]⟩) ::
 (nat_lit 366, ⟨(.type "function"), none, .func ⟨"_law_side", "_law_side", P40, .stmts B40, S40, 3, [], .none, .none, .none, (.str "law_nu0337_01" 665), none, (.ref 365), .none, 0⟩, #[]⟩) ::
 (nat_lit 367, ⟨(.type "tuple"), none, .seq #[] 0, #[]⟩) ::
 (nat_lit 369, ⟨(.type "tuple"), none, .seq #[(.str "pool" 715), (.str "types" 716), (.str "rows" 717), (.str "t" 718), (.str "way" 719), (.str "side" 720)] 0, #[]⟩) ::
 (nat_lit 370, ⟨(.type "tuple"), none, .seq #[] 0, #[]⟩) ::
 (nat_lit 372, ⟨(.type "code"), none, .fields #[(.str "_law_param" 712), (.str "_law_param" 713), (.str "/claim/cut.py" 714), (.int (312) 0), (.int (3) 0), (.int (0) 0), (.int (0) 0), (.int (3) 0), (.ref 367), (.bool true), (.int (181) 0), (.ref 368), .none, (.ref 369), (.ref 370), (.ref 371), (.int (721) 0), (.int (312) 0), (.str "/claim/cut.py" 722)], #[]⟩) ::
 (nat_lit 373, ⟨(.type "function"), none, .func ⟨"_law_param", "_law_param", P41, .stmts B41, S41, 3, [], .none, .none, .none, (.str "law_nu0337_01" 665), none, (.ref 372), .none, 0⟩, #[]⟩) ::
 (nat_lit 374, ⟨(.type "tuple"), none, .seq #[] 0, #[]⟩) ::
 (nat_lit 376, ⟨(.type "tuple"), none, .seq #[(.str "node" 727), (.str "t" 728)] 0, #[]⟩) ::
 (nat_lit 377, ⟨(.type "tuple"), none, .seq #[] 0, #[]⟩) ::
 (nat_lit 379, ⟨(.type "code"), none, .fields #[(.str "_law_letter" 724), (.str "_law_letter" 725), (.str "/claim/cut.py" 726), (.int (318) 0), (.int (2) 0), (.int (0) 0), (.int (0) 0), (.int (3) 0), (.ref 374), (.bool true), (.int (181) 0), (.ref 375), .none, (.ref 376), (.ref 377), (.ref 378), (.int (729) 0), (.int (318) 0), (.str "/claim/cut.py" 730)], #[]⟩) ::
 (nat_lit 380, ⟨(.type "function"), none, .func ⟨"_law_letter", "_law_letter", P42, .stmts B42, S42, 3, [], .none, .none, .none, (.str "law_nu0337_01" 665), none, (.ref 379), .none, 0⟩, #[]⟩) ::
 (nat_lit 381, ⟨(.type "tuple"), none, .seq #[] 0, #[]⟩) ::
 (nat_lit 383, ⟨(.type "tuple"), none, .seq #[(.str "told" 735), (.str "node" 736), (.str "t" 737), (.str "code" 738)] 0, #[]⟩) ::
 (nat_lit 384, ⟨(.type "tuple"), none, .seq #[] 0, #[]⟩) ::
 (nat_lit 386, ⟨(.type "code"), none, .fields #[(.str "_law_same" 732), (.str "_law_same" 733), (.str "/claim/cut.py" 734), (.int (320) 0), (.int (4) 0), (.int (0) 0), (.int (0) 0), (.int (3) 0), (.ref 381), (.bool true), (.int (181) 0), (.ref 382), .none, (.ref 383), (.ref 384), (.ref 385), (.int (739) 0), (.int (320) 0), (.str "/claim/cut.py" 740)], #[]⟩) ::
 (nat_lit 387, ⟨(.type "function"), none, .func ⟨"_law_same", "_law_same", P43, .stmts B43, S43, 3, [], .none, .none, .none, (.str "law_nu0337_01" 665), none, (.ref 386), .none, 0⟩, #[]⟩) ::
 (nat_lit 388, ⟨(.type "tuple"), none, .seq #[] 0, #[]⟩) ::
 (nat_lit 391, ⟨(.type "code"), none, .fields #[(.str "law" 742), (.str "law" 743), (.str "/claim/cut.py" 744), (.int (324) 0), (.int (1) 0), (.int (0) 0), (.int (0) 0), (.int (3) 0), (.ref 388), (.bool true), (.int (181) 0), (.ref 389), .none, .none, .none, (.ref 390), (.int (745) 0), (.int (324) 0), (.str "/claim/cut.py" 746)], #[]⟩) ::
 (nat_lit 392, ⟨(.type "function"), none, .func ⟨"law", "law", P44, .stmts B44, S44, 3, [], .none, .none, .none, (.str "law_nu0337_01" 665), none, (.ref 391), .none, 0⟩, #[]⟩) :: []
noncomputable def KA : List Nat := [nat_lit 2, nat_lit 3, nat_lit 15, nat_lit 17, nat_lit 18, nat_lit 20, nat_lit 21, nat_lit 29, nat_lit 30, nat_lit 32, nat_lit 33, nat_lit 35, nat_lit 36, nat_lit 37, nat_lit 38, nat_lit 39, nat_lit 40, nat_lit 41, nat_lit 44, nat_lit 46, nat_lit 47, nat_lit 49, nat_lit 50, nat_lit 51, nat_lit 53, nat_lit 54, nat_lit 56, nat_lit 57, nat_lit 58, nat_lit 60, nat_lit 61, nat_lit 63, nat_lit 64, nat_lit 65, nat_lit 67, nat_lit 68, nat_lit 70, nat_lit 71, nat_lit 72, nat_lit 74, nat_lit 75, nat_lit 77, nat_lit 78, nat_lit 79, nat_lit 81, nat_lit 82, nat_lit 84, nat_lit 85, nat_lit 86, nat_lit 88, nat_lit 89, nat_lit 91, nat_lit 92, nat_lit 93, nat_lit 95, nat_lit 96, nat_lit 98, nat_lit 99, nat_lit 100, nat_lit 102, nat_lit 103, nat_lit 105, nat_lit 106, nat_lit 107, nat_lit 109, nat_lit 110, nat_lit 112, nat_lit 113, nat_lit 114, nat_lit 116, nat_lit 117, nat_lit 119, nat_lit 120, nat_lit 121, nat_lit 123, nat_lit 124, nat_lit 126, nat_lit 127, nat_lit 128, nat_lit 130, nat_lit 131, nat_lit 133, nat_lit 134, nat_lit 135, nat_lit 137, nat_lit 138, nat_lit 140, nat_lit 141, nat_lit 142, nat_lit 144, nat_lit 145, nat_lit 147, nat_lit 148, nat_lit 149, nat_lit 151, nat_lit 152, nat_lit 154, nat_lit 155, nat_lit 156, nat_lit 158, nat_lit 159, nat_lit 161, nat_lit 162, nat_lit 163, nat_lit 165, nat_lit 166, nat_lit 168, nat_lit 169, nat_lit 170, nat_lit 172, nat_lit 173, nat_lit 175, nat_lit 176, nat_lit 177, nat_lit 179, nat_lit 180, nat_lit 182, nat_lit 183, nat_lit 184, nat_lit 186, nat_lit 187, nat_lit 189, nat_lit 190, nat_lit 191, nat_lit 193, nat_lit 194, nat_lit 196, nat_lit 197, nat_lit 198, nat_lit 200, nat_lit 201, nat_lit 203, nat_lit 204, nat_lit 205, nat_lit 207, nat_lit 208, nat_lit 210, nat_lit 211, nat_lit 212, nat_lit 214, nat_lit 215, nat_lit 217, nat_lit 218, nat_lit 226, nat_lit 228, nat_lit 229, nat_lit 231, nat_lit 232, nat_lit 233, nat_lit 235, nat_lit 236, nat_lit 238, nat_lit 239, nat_lit 240, nat_lit 242, nat_lit 243, nat_lit 245, nat_lit 246, nat_lit 247, nat_lit 249, nat_lit 250, nat_lit 252, nat_lit 253, nat_lit 254, nat_lit 255, nat_lit 256, nat_lit 257, nat_lit 258, nat_lit 268, nat_lit 270, nat_lit 271, nat_lit 273, nat_lit 274, nat_lit 275, nat_lit 276, nat_lit 277, nat_lit 278, nat_lit 279, nat_lit 289, nat_lit 291, nat_lit 292, nat_lit 294, nat_lit 295, nat_lit 296, nat_lit 297, nat_lit 298, nat_lit 299, nat_lit 300, nat_lit 310, nat_lit 312, nat_lit 313, nat_lit 315, nat_lit 316, nat_lit 317, nat_lit 318, nat_lit 320, nat_lit 321, nat_lit 323, nat_lit 324, nat_lit 325, nat_lit 327, nat_lit 328, nat_lit 330, nat_lit 331, nat_lit 332, nat_lit 333, nat_lit 334, nat_lit 335, nat_lit 336, nat_lit 339, nat_lit 341, nat_lit 342, nat_lit 344, nat_lit 345, nat_lit 346, nat_lit 348, nat_lit 349, nat_lit 351, nat_lit 352, nat_lit 353, nat_lit 355, nat_lit 356, nat_lit 358, nat_lit 359, nat_lit 360, nat_lit 362, nat_lit 363, nat_lit 365, nat_lit 366, nat_lit 367, nat_lit 369, nat_lit 370, nat_lit 372, nat_lit 373, nat_lit 374, nat_lit 376, nat_lit 377, nat_lit 379, nat_lit 380, nat_lit 381, nat_lit 383, nat_lit 384, nat_lit 386, nat_lit 387, nat_lit 388, nat_lit 391, nat_lit 392]
def kp : List Nat := [0, 2, 3, 4, 5, 6, 8, 9, 10, 11, 12, 13, 14, 15, 16, 17, 18, 19, 20, 21, 22, 24, 25, 26, 27, 28, 29, 31, 33, 34, 35, 37, 38, 39, 40, 41, 42, 43, 44]
noncomputable def qv : Program := view pw kp
theorem ke (P : Params) : KA = (KK P).map (·.1) := by kernel_rfl
noncomputable abbrev HK : Hook := kHook KK KA ke
noncomputable abbrev rr : OpenRow := PySem.Challenge.rw_nu0337_01.row
noncomputable abbrev XT : Shared → Bool := fun s => xlAt qv [] s && recOk (RowW.records rr.toRowW) s
@[reducible] noncomputable def dlaw : DefRec := ⟨"law", P44, B44, S44, Subtype.val (p := fun b => ((defOf qv "law").map (·.1.pos)).getD default = b) ⟨_, by conv => lhs; whnf⟩⟩

/-- the top's run, told whole -/
theorem left_of {p q : Program} {loose : List Str} {Xt : Shared → Bool} {α : Type} {Yf : Shared → α} {Ya : World → α} {N : Nat} {g0 : Bool} {H₀ : Params → Heap} {gs₀ : Array GenState} {d₀ : Drawn} {k₀ : Nat} {m₀ : Nat} {ann : Option Value} {M : Nat}
    (open_ : ∀ w : World, (fencedOpening treeTable p w N).map (fun s => (s.heap, s.gens, s.drawn, s.toks)) = some (H₀ w.params, gs₀, d₀, k₀))
    (size : ∀ w : World, ((H₀ w.params).isNs mainGlobals && gs₀.size == 0, (H₀ w.params).objs.size, (H₀ w.params).nsMap mainGlobals "__annotations__") = (true, m₀, ann))
    (run : ∀ w : World, (fun os : OsState => (topRun treeTable p w m₀ ann M ⟨H₀ w.params, gs₀, d₀, k₀, os⟩ (topStub p)).map fun s => ((staticsOk (importedModules p.main.body) (H₀ w.params) s.heap && namesBound p s.heap && gensDone s && laidKept (H₀ w.params) s.heap),
        openSeen q loose (importedModules p.main.body) Xt g0 s, Yf s)) = fun _ => some (true, openGood q loose, Ya w)) (le : Nat.ble M N = true) : LeftO p q loose Xt Yf Ya N g0 := fun w => by
  obtain ⟨⟨h, gs, d, k, os⟩, e, e'⟩ := Option.map_eq_some_iff.mp (open_ w)
  obtain ⟨rfl, rfl, rfl, rfl⟩ : h = H₀ w.params ∧ gs = gs₀ ∧ d = d₀ ∧ k = k₀ := by simpa using e'
  obtain ⟨z1, z2, z3⟩ : _ ∧ _ ∧ _ := by simpa only [Prod.mk.injEq] using size w
  obtain ⟨s₁, r, e⟩ := Option.map_eq_some_iff.mp (congrFun (run w) os)
  obtain ⟨l1, l2, l3⟩ : _ ∧ _ ∧ _ := by simpa only [Prod.mk.injEq] using e
  have r := topRun_mono (N - M) _ _ _ _ r
  rw [show M + (N - M) = N by have := Nat.le_of_ble_eq_true le; omega] at r
  have t : topFrom treeTable p w N ⟨H₀ w.params, gs, d, k, os⟩ = some s₁ := by
    unfold topFrom
    dsimp only
    rw [z1, z2, z3, r]
    show (match staticsOk (importedModules p.main.body) (H₀ w.params) s₁.heap && namesBound p s₁.heap && gensDone s₁ && laidKept (H₀ w.params) s₁.heap with | true => _ | false => _) = _
    rw [l1]
  unfold openEnds
  rw [‹fencedOpening treeTable p w N = _›]
  show (topFrom treeTable p w N _).map _ = _
  rw [t]
  exact congrArg some (Prod.ext l2 l3)
theorem left : LeftO pw qv [] XT HK.obs HK.val 5000 := by
  refine left_of (M := 2500) (H₀ := boot_heap) (gs₀ := Array.mk []) (d₀ := boot_drawn) (k₀ := boot_toks) (m₀ := 11) (ann := some (.ref 6)) (boot_open (by rfl) (by rfl) (fun _ => by rfl)) (fun w => by kernel_rfl) (fun w => ?_) (by rfl)
  rewrite [PySem.W.Fast.te5923862056798008813, PySem.W.Fast.te4187177175401517315, PySem.W.Fast.te14082659384304107361, PySem.W.Fast.te14364793385576792824]
  kernel_rfl
theorem said : PySem.Challenge.rw_nu0337_01.wellSaid = true := by
  rewrite [PySem.W.Fast.te9446332074065402090]
  kernel_rfl

abbrev Led := List (Addr × Obj)
/-- the contract of a call of the def (or class) at f: at depth D and C units U, over the ledger news -/
def Spec (w : World) (f : Addr) (args : List Value) (D U : Nat) (news : Led) (Post : Value → Led → Prop) : Prop :=
  ∀ (p : Program) (loose : List Str) (mean : ExcName → Option Value) (mg mb : Str → Option Value) (gd : Option (List Code)) (cn : Str) (cs : Scope) (a : Addr) (ccd : Value) (cl : List (Str × Addr)) (outer : List Env) (A₀ : Around) (base h₀ : Heap) (L : Addr) (m : Str → Option Value) (s : Shared) (Q E : Value → Shared → Prop),
    Below A₀ base outer h₀ → Fr h₀ L s.heap m → (KK w.params).In h₀ → News h₀ L s.heap news → Top p loose mean mg mb h₀ → cs.kind = .function →
    (∀ r nx h' tk', Post r nx → Fr h₀ L h' m → News h₀ L h' nx → Q r { s with heap := h', toks := tk' }) →
    wpAny (model Challenge.rw_nu0337_01.row.prog w) (ktrTop D U gd cn cs L a ccd cl outer) (call (.ref f) args) Q E s

theorem wpAny_le {α : Type} {M : Model} {A : Around} {t : Sem α} {Q : α → Shared → Prop} {E : Value → Shared → Prop} {s : Shared} {d u : Nat} (h : wpAny M A t Q E s) (hd : d ≤ A.depth) (hu : u ≤ A.units) : wpAny M { A with depth := d, units := u } t Q E s :=
  fun Γ p hΓ => h Γ p ⟨hΓ.1, Nat.le_trans hΓ.2.1 hd, hΓ.2.2.1, hΓ.2.2.2.1, Nat.le_trans hΓ.2.2.2.2 hu⟩

theorem Spec.use {w : World} {f : Addr} {args : List Value} {D U : Nat} {news : Led} {Post : Value → Led → Prop} (S : Spec w f args D U news Post)
    {p : Program} {loose : List Str} {mean : ExcName → Option Value} {mg mb : Str → Option Value} {dp un : Nat} {gd : Option (List Code)} {cn : Str} {cs : Scope} {a : Addr} {ccd : Value} {cl : List (Str × Addr)} {outer : List Env} {A₀ : Around} {base h₀ : Heap} {L : Addr} {m : Str → Option Value} {s : Shared} {Q E : Value → Shared → Prop}
    (B : Below A₀ base outer h₀) (F : Fr h₀ L s.heap m) (X : (KK w.params).In h₀) (N : News h₀ L s.heap news) (T : Top p loose mean mg mb h₀) (hk : cs.kind = .function) (hd : dp ≤ D) (hu : un ≤ U)
    (ret : ∀ r nx h' tk', Post r nx → Fr h₀ L h' m → News h₀ L h' nx → Q r { s with heap := h', toks := tk' }) :
    wpAny (model Challenge.rw_nu0337_01.row.prog w) (ktrTop dp un gd cn cs L a ccd cl outer) (call (.ref f) args) Q E s :=
  wpAny_le (S p loose mean mg mb gd cn cs a ccd cl outer A₀ base h₀ L m s Q E B F X N T hk ret) hd hu

/-- a contract, its post eliminated while the continuation is still a variable -/
theorem Spec.useC {w : World} {f : Addr} {args : List Value} {D U : Nat} {news : Led} {Post : Value → Led → Prop} (S : Spec w f args D U news Post) {K : (Value → Led → Prop) → Prop} (cps : ∀ C : Value → Led → Prop, K C → ∀ r nx, Post r nx → C r nx)
    {p : Program} {loose : List Str} {mean : ExcName → Option Value} {mg mb : Str → Option Value} {dp un : Nat} {gd : Option (List Code)} {cn : Str} {cs : Scope} {a : Addr} {ccd : Value} {cl : List (Str × Addr)} {outer : List Env} {A₀ : Around} {base h₀ : Heap} {L : Addr} {m : Str → Option Value} {s : Shared} {Q E : Value → Shared → Prop}
    (B : Below A₀ base outer h₀) (F : Fr h₀ L s.heap m) (X : (KK w.params).In h₀) (N : News h₀ L s.heap news) (T : Top p loose mean mg mb h₀) (hk : cs.kind = .function) (hd : dp ≤ D) (hu : un ≤ U)
    (ret : K (fun r nx => ∀ h' tk', Fr h₀ L h' m → News h₀ L h' nx → Q r { s with heap := h', toks := tk' })) :
    wpAny (model Challenge.rw_nu0337_01.row.prog w) (ktrTop dp un gd cn cs L a ccd cl outer) (call (.ref f) args) Q E s :=
  S.use B F X N T hk hd hu fun r nx h' tk' hp F' N' => cps _ ret r nx hp h' tk' F' N'

/-- a ledger may be read as any part of it -/
theorem led_drop {h₀ h : Heap} {L : Addr} {news news' : Led} (N : News h₀ L h news') (hs : ∀ p ∈ news, p ∈ news') : News h₀ L h news := fun p hp => N p (hs p hp)

theorem word_1 : True := by
  k_with "My_k_enter_0_0" => (refine' code_def ?k1_q9 ?k2_q9 ?k3_q9 ?k4_q9 ?k5_q9 ?kA_q9 ?kF_q9 ?kK_q9 ?k6_q9 ?k7_q9 ?k8_q9 ?k9_q9 ?kB_q9 ?_ ?c2_q9 ?c3_q9 ?c4_q9 ?c5_q9; (case kA_q9 => exact rfl); (case kF_q9 => exact rfl); (case kK_q9 => assumption); (case k1_q9 => k_asm); (case k2_q9 => k_asm); (case k3_q9 => k_asm); (case k4_q9 => k_asm); (case k5_q9 => k_asm); (case k6_q9 => k_is); (case k7_q9 => k_is); (case k8_q9 => k_room); (case k9_q9 => first | exact BindsTo.of_eq rfl | exact binds_K (by k_in) rfl (by k_is) rfl rfl rfl | fail "k_enter: no rule for these arguments"); (case c5_q9 => decide); (case kB_q9 => exact locs rfl); (case c2_q9 => exact rfl); (case c3_q9 => exact rfl); (case c4_q9 => exact rfl); k_whole; intro g' L' h' FG' F' N' B' X' T'; (try dsimp only); (try k_lift B'); (try k_fold))
  trivial
local macro_rules | `(tactic| k_enter) => `(tactic| k_extra "My_k_enter_0_0")
theorem word_2 : True := by
  k_with "MyStp" => repeat' (first | (k_unfold; (try dsimp only)) | (k_end; wrow_close) | (dsimp only; walk1) | walk1 | (leave1; walk_say "STEP leave1"; try dsimp only) | fail "no step")
  trivial
/-- all of tl lie above all of led -/
def Abv (tl led : Led) : Prop := ∀ p ∈ tl, ∀ q ∈ led, @LT.lt Nat _ q.1 p.1
theorem Abv.ne {tl led : Led} {d : Addr} {o : Obj} (h : Abv tl led) (hm : (d, o) ∈ led) : ∀ p ∈ tl, p.1 ≠ d := fun p hp => Nat.ne_of_gt (h p hp _ hm)
theorem Abv.nil {led : Led} : Abv [] led := fun _ h => nomatch h
theorem Abv.cons {a : Addr} {o : Obj} {tl led : Led} (h : ∀ q ∈ led, @LT.lt Nat _ q.1 a) (r : Abv tl led) : Abv ((a, o) :: tl) led := fun p hp q hq => by
  rcases List.mem_cons.mp hp with rfl | hp
  · exact h q hq
  · exact r p hp q hq
theorem Abv.append {t₁ t₂ led : Led} (h : Abv t₁ led) (k : Abv t₂ led) : Abv (t₁ ++ t₂) led := fun p hp => (List.mem_append.mp hp).elim (h p) (k p)
theorem Abv.sub {tl led led' : Led} (h : Abv tl led') (s : ∀ p ∈ led, p ∈ led') : Abv tl led := fun p hp q hq => h p hp q (s q hq)
theorem AllLt.sub {d : Addr} {led led' : Led} (h : AllLt d led') (s : ∀ p ∈ led, p ∈ led') : ∀ q ∈ led, @LT.lt Nat _ q.1 d := fun q hq => ktn_ltOf h q (s q hq)
/-- one entry of a ledger, and the rest -/
inductive Pick (d : Addr) (o : Obj) : Led → Led → Prop
  | head {r} : Pick d o ((d, o) :: r) r
  | tail {p r r'} : Pick d o r r' → Pick d o (p :: r) (p :: r')
  | app {l r r'} : Pick d o r r' → Pick d o (l ++ r) (l ++ r')
theorem Pick.mem {d : Addr} {o : Obj} {l r : Led} (h : Pick d o l r) : ∀ p ∈ (d, o) :: r, p ∈ l := by
  induction h with
  | head => exact fun p hp => hp
  | tail _ ih =>
    intro p hp
    · rcases List.mem_cons.mp hp with e | hp
      · exact List.mem_cons_of_mem _ (ih p (e ▸ List.mem_cons_self))
      · rcases List.mem_cons.mp hp with e | hp
        · exact e ▸ List.mem_cons_self
        · exact List.mem_cons_of_mem _ (ih p (List.mem_cons_of_mem _ hp))
  | app _ ih =>
    intro p hp
    · rcases List.mem_cons.mp hp with e | hp
      · exact List.mem_append.mpr (.inr (ih p (e ▸ List.mem_cons_self)))
      · rcases List.mem_append.mp hp with hp | hp
        · exact List.mem_append.mpr (.inl hp)
        · exact List.mem_append.mpr (.inr (ih p (List.mem_cons_of_mem _ hp)))
theorem Pick.one {h₀ h : Heap} {L : Addr} {d : Addr} {o : Obj} {l r : Led} (N : News h₀ L h l) (k : Pick d o l r) : News h₀ L h ((d, o) :: r) := led_drop N k.mem
theorem Pick.two {h₀ h : Heap} {L : Addr} {d d' : Addr} {o o' : Obj} {l r r' : Led} (N : News h₀ L h l) (k : Pick d o l r) (k' : Pick d' o' r r') : News h₀ L h ((d, o) :: (d', o') :: r') :=
  led_drop (k.one N) fun p hp => by
    rcases List.mem_cons.mp hp with e | hp
    · exact e ▸ List.mem_cons_self
    · exact List.mem_cons_of_mem _ (k'.mem p hp)
local macro_rules | `(tactic| k_all) => `(tactic| k_extra "MySep")
theorem word_3 : True := by
  k_with "MyLt1" => first | assumption | exact And.left (by assumption) | exact And.left (And.right (by assumption)) | exact And.left (And.right (And.right (by assumption))) | exact And.left (And.right (And.right (And.right (by assumption))))
  k_with "MyNe" => first | assumption | (refine neN ?_; (try dsimp only); first | assumption | exact Ne.symm (by assumption) | exact Nat.ne_of_lt (by k_extra "MyLt1") | exact Nat.ne_of_gt (by k_extra "MyLt1")) | k_ne
  k_with "MySep" => first | assumption | exact List.forall_mem_nil _ | (refine List.forall_mem_cons.mpr ⟨?_, ?_⟩; (focus (k_extra "MyNe")); k_extra "MySep") | (refine List.forall_mem_append.mpr ⟨?_, ?_⟩; (focus (k_extra "MySep")); k_extra "MySep") | exact fun p hp => Nat.ne_of_lt (ktn_ltOf (by assumption) p hp) | exact Abv.ne (by assumption) (by k_extra "MyMem")
  k_with "MyPick" => first | exact Pick.head | (apply Pick.tail; k_extra "MyPick") | (apply Pick.app; k_extra "MyPick")
  k_with "MyLt" => first | assumption | exact List.forall_mem_nil _ | (refine List.forall_mem_cons.mpr ⟨?_, ?_⟩; (focus (refine ltN ?_; (try dsimp only); first | k_extra "MyLt1" | omega)); k_extra "MyLt") | exact AllLt.sub (by assumption) (by k_extra "MySub") | exact AllLt.sub (allLt_of (by assumption)) (by k_extra "MySub") | (refine List.forall_mem_append.mpr ⟨?_, ?_⟩; (focus (k_extra "MyLt")); k_extra "MyLt")
  k_with "MyAbv" => first | assumption | exact Abv.nil | (refine Abv.cons ?_ ?_; (focus (k_extra "MyLt")); k_extra "MyAbv") | (refine Abv.append ?_ ?_; (focus (k_extra "MyAbv")); k_extra "MyAbv") | exact Abv.sub (by assumption) (by k_extra "MySub")
  k_with "MyLed" => k_asm
  k_with "MyRel" => assumption
  trivial
local macro_rules | `(tactic| walk_at "exec While") => `(tactic| (k_here; k_dflt (refine whl_start 9 ?_)))
local macro_rules | `(tactic| walk_at "exec While Compare") => `(tactic| (k_here; k_dflt (refine whl_start 9 ?_)))
local macro_rules | `(tactic| walk_at "exec While Compare cons nil") => `(tactic| (k_here; k_dflt (refine whl_start 9 ?_)))
local macro_rules | `(tactic| k_mem) => `(tactic| k_extra "MyMem")
theorem word_4 : True := by
  k_with "MyMem" => first | exact List.mem_cons_self | assumption | (refine List.mem_cons_of_mem _ ?_; k_extra "MyMem") | (refine List.mem_append.mpr (Or.inl ?_); k_extra "MyMem") | (refine List.mem_append.mpr (Or.inr ?_); k_extra "MyMem")
  k_with "MySub" => first | exact fun _ h => h | assumption | exact List.forall_mem_nil _ | (refine List.forall_mem_cons.mpr ⟨?_, ?_⟩; (focus (k_extra "MyMem")); k_extra "MySub") | (refine List.forall_mem_append.mpr ⟨?_, ?_⟩; (focus (k_extra "MySub")); k_extra "MySub") | (intro p9 h9; k_extra "MyMem")
  k_with "MyLed" => first | k_asm | exact led_drop (by assumption) (by k_extra "MySub")
  k_with "My_size_fits_3_3" => (rw [PySem.sizeLine_eq]; (try simp only [List.size_toArray, List.length_append, List.length_cons, List.length_nil]); omega)
  trivial
local macro_rules | `(tactic| size_fits) => `(tactic| k_extra "My_size_fits_3_3")


theorem tick_rel {prog : Program} {w : World} {A : Around} {env : Env} {E : Value → Shared → Prop} {s : Shared} {Q : Flow → Shared → Prop} (h : wpAny (model prog w) A (execs [] env) Q E s) : wpAny (model prog w) A (execs [] env) Q E s := by
  first | (walk1; fail) | exact h
/-- the kinds of types that a value, a parameter or a side of the law's world may have -/
inductive TK where
  | int | chr | boo | rcd | arr | byt
  | str (num len : Int)
def TK.num : TK → Int
  | .int => 4 | .chr => 2 | .boo => 1 | .rcd => 8 | .arr => 9 | .byt => 3
  | .str n _ => n
def TK.form : TK → Str
  | .int => "integer" | .chr => "char" | .boo => "boolean" | .rcd => "record" | .arr => "array" | .byt => "byte"
  | .str _ _ => "string"
def TK.len : TK → Int
  | .arr => -1
  | .str _ l => l
  | _ => 0
def tyEs (P : Params) (ts : Nat → Tok) (num : Int) (tn : Tok) (form : Str) (tf : Tok) (size base : Value) (len : Int) (tl : Tok) (fields level params module label hidden exno : Value) : List DictEntry :=
  [⟨PyData.keyHash P "number", .str "number" (ts 0), .int num tn⟩, ⟨PyData.keyHash P "form", .str "form" (ts 1), .str form tf⟩, ⟨PyData.keyHash P "size", .str "size" (ts 2), size⟩, ⟨PyData.keyHash P "base", .str "base" (ts 3), base⟩, ⟨PyData.keyHash P "length", .str "length" (ts 4), .int len tl⟩,
   ⟨PyData.keyHash P "fields", .str "fields" (ts 5), fields⟩, ⟨PyData.keyHash P "level", .str "level" (ts 6), level⟩, ⟨PyData.keyHash P "params", .str "params" (ts 7), params⟩, ⟨PyData.keyHash P "module", .str "module" (ts 8), module⟩, ⟨PyData.keyHash P "label", .str "label" (ts 9), label⟩, ⟨PyData.keyHash P "hidden", .str "hidden" (ts 10), hidden⟩, ⟨PyData.keyHash P "exno", .str "exno" (ts 11), exno⟩]
/-- a Type stands at a: its number, form, length, base, params -/
def IsTy0 (P : Params) (news : Led) (a : Addr) (num : Int) (form : Str) (len : Int) (base params : Value) : Prop :=
  ∃ (d : Addr) (ts : Nat → Tok) (tn tf tl : Tok) (size fields level module label hidden exno : Value), (a, instObj 277 d) ∈ news ∧ (d, dictOf (tyEs P ts num tn form tf size base len tl fields level params module label hidden exno) 12) ∈ news
theorem IsTy0.mono {P : Params} {news news' : Led} {a : Addr} {num : Int} {form : Str} {len : Int} {base params : Value} (h : IsTy0 P news a num form len base params) (hs : ∀ p ∈ news, p ∈ news') : IsTy0 P news' a num form len base params := by
  obtain ⟨d, ts, tn, tf, tl, size, fields, level, module, label, hidden, exno, h1, h2⟩ := h
  exact ⟨d, ts, tn, tf, tl, size, fields, level, module, label, hidden, exno, hs _ h1, hs _ h2⟩
/-- a Type of kind k stands at a; an array's base is the char type -/
def IsTy (P : Params) (news : Led) (a : Addr) (k : TK) : Prop :=
  ∃ (base params : Value), IsTy0 P news a k.num k.form k.len base params ∧ (k = .arr → ∃ c b q, base = .ref c ∧ IsTy0 P news c 2 "char" 0 b q)
theorem IsTy.mono {P : Params} {news news' : Led} {a : Addr} {k : TK} (h : IsTy P news a k) (hs : ∀ p ∈ news, p ∈ news') : IsTy P news' a k := by
  obtain ⟨b, q, h1, h2⟩ := h
  exact ⟨b, q, h1.mono hs, fun e => by obtain ⟨c, b', q', e1, e2⟩ := h2 e; exact ⟨c, b', q', e1, e2.mono hs⟩⟩
theorem IsTy0.elim {P : Params} {news : Led} {a : Addr} {num : Int} {form : Str} {len : Int} {base params : Value} {C : Prop} (h : IsTy0 P news a num form len base params)
    (k : ∀ (d : Addr) (ts : Nat → Tok) (tn tf tl : Tok) (size fields level module label hidden exno : Value), (a, instObj 277 d) ∈ news → (d, dictOf (tyEs P ts num tn form tf size base len tl fields level params module label hidden exno) 12) ∈ news → C) : C := by
  obtain ⟨d, ts, tn, tf, tl, size, fields, level, module, label, hidden, exno, h1, h2⟩ := h
  exact k d ts tn tf tl size fields level module label hidden exno h1 h2
theorem IsTy.elim {P : Params} {news : Led} {a : Addr} {k : TK} {C : Prop} (h : IsTy P news a k)
    (c : ∀ (base params : Value) (d : Addr) (ts : Nat → Tok) (tn tf tl : Tok) (size fields level module label hidden exno : Value), (a, instObj 277 d) ∈ news → (d, dictOf (tyEs P ts k.num tn k.form tf size base k.len tl fields level params module label hidden exno) 12) ∈ news → (k = .arr → ∃ c b q, base = .ref c ∧ IsTy0 P news c 2 "char" 0 b q) → C) : C := by
  obtain ⟨b, q, h1, h2⟩ := h
  exact h1.elim fun d ts tn tf tl size fields level module label hidden exno m1 m2 => c b q d ts tn tf tl size fields level module label hidden exno m1 m2 h2
def intB (k : TK) : Bool := k.form == "integer" || k.form == "byte"
def textB (k : TK) : Bool := k.form == "string" || k.form == "array"
def opnB (k : TK) : Bool := k.form == "array"
theorem opn_arr : opnB .arr = true := by decide
theorem TK.arr_of {k : TK} (h : k.form = "array") : k = .arr := by
  cases k <;> first | rfl | (exfalso; revert h; simp only [TK.form]; decide)
theorem TK.rcd_of {k : TK} (h : k.form = "record") : k = .rcd := by
  cases k <;> first | rfl | (exfalso; revert h; simp only [TK.form]; decide)
theorem TK.not_nil (k : TK) : (k.form == "nil") = false := by cases k <;> (simp only [TK.form]; decide)
theorem TK.not_proc (k : TK) : (k.form == "proc") = false := by cases k <;> (simp only [TK.form]; decide)
theorem TK.not_none (k : TK) : (k.form == "none") = false := by cases k <;> (simp only [TK.form]; decide)
theorem TK.not_ptr (k : TK) : (k.form == "pointer") = false := by cases k <;> (simp only [TK.form]; decide)
theorem TK.arrOr (k : TK) : k = .arr ∨ (k.form == "array") = false := by cases k <;> first | exact .inl rfl | (right; simp only [TK.form]; decide)
theorem TK.rcdOr (k : TK) : k = .rcd ∨ (k.form == "record") = false := by cases k <;> first | exact .inl rfl | (right; simp only [TK.form]; decide)

theorem IsTy.chr_of {P : Params} {news : Led} {a : Addr} {b q : Value} (h : IsTy0 P news a 2 "char" 0 b q) : IsTy P news a .chr := ⟨b, q, h, fun e => nomatch e⟩

set_option maxRecDepth 100000 in
set_option maxHeartbeats 8000000 in
theorem same_type_spec (w : World) (news : Led) (a b : Addr) (k₁ k₂ : TK) (ha : IsTy w.params news a k₁) (hb : IsTy w.params news b k₂) :
    Spec w 78 [.ref a, .ref b] 960 9500 news (fun r nx => nx = news ∧ r = .bool (k₁.num == k₂.num)) := by
  w_top off
  unfold Spec
  k_fill
  intro p loose mean mg mb gd cn cs a₀ ccd cl outer A₀ base h₀ L m s Q E B F X N T hk hret
  refine IsTy.elim ha fun _ _ d ts tn tf tl size fields level module label hidden exno h1 h2 _ => ?_
  clear ha
  refine IsTy.elim hb fun _ _ d' ts' tn' tf' tl' size' fields' level' module' label' hidden' exno' h1' h2' _ => ?_
  clear hb
  k_extra "MyStp"
  all_goals ((try dsimp only); refine hret _ _ _ _ (And.intro rfl ?_) (by k_asm) (by k_extra "MyLed"))
  all_goals (simp_all; done)
theorem same_type_cps {news : Led} {k₁ k₂ : TK} (C : Value → Led → Prop) (h9 : C (.bool (k₁.num == k₂.num)) (news)) : ∀ r nx, (nx = news ∧ r = .bool (k₁.num == k₂.num)) → C r nx := by
  rintro r nx ⟨rfl, rfl⟩
  exact h9 

theorem word_5 : True := by
  k_with "call ref" => (k_here; (with_reducible show wpAny _ _ (call (Value.ref 78) _) _ _ _); k_dflt (refine' Spec.useC (same_type_spec _ _ _ _ _ _ ?h1_q9 ?h2_q9) same_type_cps ?k1_q9 ?k2_q9 ?k3_q9 ?k4_q9 ?k5_q9 ?k6_q9 ?k7_q9 ?k8_q9 ?_; (case k1_q9 => k_asm); (case k2_q9 => k_asm); (case k3_q9 => k_asm); (case k4_q9 => k_extra "MyLed"); (case k5_q9 => k_asm); (case k6_q9 => first | exact rfl | assumption); (case k7_q9 => exact Nat.le_of_ble_eq_true rfl); (case k8_q9 => exact Nat.le_of_ble_eq_true rfl); (case h1_q9 => k_extra "MyRel"); (case h2_q9 => k_extra "MyRel"); k_whole; intro  h9 tk9 F9 N9; (try k_sweep); (try dsimp only); (try k_fold)))
  trivial
local macro_rules | `(tactic| walk_at "call ref") => `(tactic| k_extra "call ref")

set_option maxRecDepth 100000 in
set_option maxHeartbeats 8000000 in
theorem is_integer_spec (w : World) (news : Led) (a : Addr) (k : TK) (h : IsTy w.params news a k) : Spec w 85 [.ref a] 960 9500 news (fun r nx => nx = news ∧ r = .bool (intB k)) := by
  unfold Spec
  intro p loose mean mg mb gd cn cs a₀ ccd cl outer A₀ base h₀ L m s Q E B F X N T hk hret
  refine IsTy.elim h fun _ _ d ts tn tf tl size fields level module label hidden exno h1 h2 _ => ?_
  clear h
  k_extra "MyStp"
  all_goals ((try dsimp only); refine hret _ _ _ _ (And.intro rfl ?_) (by k_asm) (by k_extra "MyLed"))
  all_goals (simp_all [intB]; done)
theorem is_integer_cps {news : Led} {k : TK} (C : Value → Led → Prop) (h9 : C (.bool (intB k)) (news)) : ∀ r nx, (nx = news ∧ r = .bool (intB k)) → C r nx := by
  rintro r nx ⟨rfl, rfl⟩
  exact h9 


theorem word_6 : True := by
  k_with "call ref" => (k_here; (with_reducible show wpAny _ _ (call (Value.ref 85) _) _ _ _); k_dflt (refine' Spec.useC (is_integer_spec _ _ _ _ ?h1_q9) is_integer_cps ?k1_q9 ?k2_q9 ?k3_q9 ?k4_q9 ?k5_q9 ?k6_q9 ?k7_q9 ?k8_q9 ?_; (case k1_q9 => k_asm); (case k2_q9 => k_asm); (case k3_q9 => k_asm); (case k4_q9 => k_extra "MyLed"); (case k5_q9 => k_asm); (case k6_q9 => first | exact rfl | assumption); (case k7_q9 => exact Nat.le_of_ble_eq_true rfl); (case k8_q9 => exact Nat.le_of_ble_eq_true rfl); (case h1_q9 => k_extra "MyRel"); k_whole; intro  h9 tk9 F9 N9; (try k_sweep); (try dsimp only); (try k_fold)))
  trivial
set_option maxRecDepth 100000 in
set_option maxHeartbeats 8000000 in
theorem is_open_spec (w : World) (news : Led) (a : Addr) (k : TK) (h : IsTy w.params news a k) : Spec w 99 [.ref a] 960 9500 news (fun r nx => nx = news ∧ r = .bool (opnB k)) := by
  unfold Spec
  intro p loose mean mg mb gd cn cs a₀ ccd cl outer A₀ base h₀ L m s Q E B F X N T hk hret
  refine IsTy.elim h fun _ _ d ts tn tf tl size fields level module label hidden exno h1 h2 _ => ?_
  clear h
  k_extra "MyStp"
  all_goals ((try dsimp only); refine hret _ _ _ _ (And.intro rfl ?_) (by k_asm) (by k_extra "MyLed"))
  · have e := TK.arr_of (by simpa using ‹(k.form == _) = true›); subst e; simp [opnB]; decide
  · simp_all [opnB]
theorem is_open_cps {news : Led} {k : TK} (C : Value → Led → Prop) (h9 : C (.bool (opnB k)) (news)) : ∀ r nx, (nx = news ∧ r = .bool (opnB k)) → C r nx := by
  rintro r nx ⟨rfl, rfl⟩
  exact h9 


theorem word_7 : True := by
  k_with "call ref" => (k_here; (with_reducible show wpAny _ _ (call (Value.ref 99) _) _ _ _); k_dflt (refine' Spec.useC (is_open_spec _ _ _ _ ?h1_q9) is_open_cps ?k1_q9 ?k2_q9 ?k3_q9 ?k4_q9 ?k5_q9 ?k6_q9 ?k7_q9 ?k8_q9 ?_; (case k1_q9 => k_asm); (case k2_q9 => k_asm); (case k3_q9 => k_asm); (case k4_q9 => k_extra "MyLed"); (case k5_q9 => k_asm); (case k6_q9 => first | exact rfl | assumption); (case k7_q9 => exact Nat.le_of_ble_eq_true rfl); (case k8_q9 => exact Nat.le_of_ble_eq_true rfl); (case h1_q9 => k_extra "MyRel"); k_whole; intro  h9 tk9 F9 N9; (try k_sweep); (try dsimp only); (try k_fold)))
  trivial
set_option maxRecDepth 100000 in
set_option maxHeartbeats 8000000 in
theorem is_text_spec (w : World) (news : Led) (a : Addr) (k : TK) (h : IsTy w.params news a k) : Spec w 92 [.ref a] 960 9500 news (fun r nx => nx = news ∧ r = .bool (textB k)) := by
  unfold Spec
  intro p loose mean mg mb gd cn cs a₀ ccd cl outer A₀ base h₀ L m s Q E B F X N T hk hret
  refine IsTy.elim h fun _ _ d ts tn tf tl size fields level module label hidden exno h1 h2 hb => ?_
  clear h
  rcases TK.arrOr k with rfl | hk'
  · ((obtain ⟨c, b, q, rfl, he1⟩ := hb rfl); (refine IsTy0.elim he1 fun d' ts' tn' tf' tl' size' fields' level' module' label' hidden' exno' h1' h2' => ?_); (clear he1))
    k_extra "MyStp"
    all_goals ((try dsimp only); refine hret _ _ _ _ (And.intro rfl ?_) (by k_asm) (by k_extra "MyLed"))
    all_goals (first | (simp_all [textB]; done) | (simp_all [textB, TK.form]; done) | rfl | decide)
  · k_extra "MyStp"
    all_goals ((try dsimp only); refine hret _ _ _ _ (And.intro rfl ?_) (by k_asm) (by k_extra "MyLed"))
    all_goals (simp_all [textB]; done)
theorem is_text_cps {news : Led} {k : TK} (C : Value → Led → Prop) (h9 : C (.bool (textB k)) (news)) : ∀ r nx, (nx = news ∧ r = .bool (textB k)) → C r nx := by
  rintro r nx ⟨rfl, rfl⟩
  exact h9 


theorem word_8 : True := by
  k_with "call ref" => (k_here; (with_reducible show wpAny _ _ (call (Value.ref 92) _) _ _ _); k_dflt (refine' Spec.useC (is_text_spec _ _ _ _ ?h1_q9) is_text_cps ?k1_q9 ?k2_q9 ?k3_q9 ?k4_q9 ?k5_q9 ?k6_q9 ?k7_q9 ?k8_q9 ?_; (case k1_q9 => k_asm); (case k2_q9 => k_asm); (case k3_q9 => k_asm); (case k4_q9 => k_extra "MyLed"); (case k5_q9 => k_asm); (case k6_q9 => first | exact rfl | assumption); (case k7_q9 => exact Nat.le_of_ble_eq_true rfl); (case k8_q9 => exact Nat.le_of_ble_eq_true rfl); (case h1_q9 => k_extra "MyRel"); k_whole; intro  h9 tk9 F9 N9; (try k_sweep); (try dsimp only); (try k_fold)))
  trivial

theorem tick_pure {prog : Program} {w : World} {A : Around} {env : Env} {E : Value → Shared → Prop} {s : Shared} {Q : Flow → Shared → Prop} (h : wpAny (model prog w) A (execs [] env) Q E s) : wpAny (model prog w) A (execs [] env) Q E s := by
  first | (walk1; fail) | exact h

/-- the codes -/
inductive CK where
  | ok | inc | long | ro | nav
def CK.str : CK → Str
  | .ok => "" | .inc => "incompatible" | .long => "too_long" | .ro => "read_only" | .nav => "not_a_variable"
def extB (v t : TK) : Bool := v.form == t.form && v.form == "record"
def arrB (a b : TK) : Bool := a.form == "array" && b.form == "array"
def strC (t : TK) (l : Int) : CK := if (t.form == "char") = true ∧ l = 2 then .ok else if textB t = true then (if 0 ≤ t.len ∧ t.len < l then .long else .ok) else .inc

set_option maxRecDepth 100000 in
set_option maxHeartbeats 8000000 in
theorem extends_spec (w : World) (news : Led) (a b : Addr) (k₁ k₂ : TK) (ha : IsTy w.params news a k₁) (hb : IsTy w.params news b k₂) :
    Spec w 113 [.ref a, .ref b] 940 9300 news (fun r nx => nx = news ∧ r = .bool (extB k₁ k₂)) := by
  w_top off
  unfold Spec
  k_fill
  intro p loose mean mg mb gd cn cs a₀ ccd cl outer A₀ base h₀ L m s Q E B F X N T hk hret
  have ha' := ha
  have hb' := hb
  refine IsTy.elim ha' fun _ _ d ts tn tf tl size fields level module label hidden exno h1 h2 _ => ?_
  clear ha'
  refine IsTy.elim hb' fun _ _ d' ts' tn' tf' tl' size' fields' level' module' label' hidden' exno' h1' h2' _ => ?_
  clear hb'
  have e1 := TK.not_ptr k₁
  have e2 := TK.not_ptr k₂
  rcases TK.rcdOr k₁ with rfl | e3
  · rcases TK.rcdOr k₂ with rfl | e4
    · k_extra "MyStp"
      all_goals ((try dsimp only); refine hret _ _ _ _ (And.intro rfl ?_) (by k_asm) (by k_extra "MyLed"))
      all_goals (first | rfl | decide | (simp_all [extB]; done))
    · have e5 : (TK.rcd.form != k₂.form) = true := by simpa [TK.form, bne, BEq.comm] using e4
      k_extra "MyStp"
      all_goals ((try dsimp only); refine hret _ _ _ _ (And.intro rfl ?_) (by k_asm) (by k_extra "MyLed"))
      all_goals (simp_all [extB]; done)
  · k_extra "MyStp"
    all_goals ((try dsimp only); refine hret _ _ _ _ (And.intro rfl ?_) (by k_asm) (by k_extra "MyLed"))
    all_goals (simp_all [extB]; done)
theorem extends_cps {news : Led} {k₁ k₂ : TK} (C : Value → Led → Prop) (h9 : C (.bool (extB k₁ k₂)) (news)) : ∀ r nx, (nx = news ∧ r = .bool (extB k₁ k₂)) → C r nx := by
  rintro r nx ⟨rfl, rfl⟩
  exact h9 


theorem word_9 : True := by
  k_with "call ref" => (k_here; (with_reducible show wpAny _ _ (call (Value.ref 113) _) _ _ _); k_dflt (refine' Spec.useC (extends_spec _ _ _ _ _ _ ?h1_q9 ?h2_q9) extends_cps ?k1_q9 ?k2_q9 ?k3_q9 ?k4_q9 ?k5_q9 ?k6_q9 ?k7_q9 ?k8_q9 ?_; (case k1_q9 => k_asm); (case k2_q9 => k_asm); (case k3_q9 => k_asm); (case k4_q9 => k_extra "MyLed"); (case k5_q9 => k_asm); (case k6_q9 => first | exact rfl | assumption); (case k7_q9 => exact Nat.le_of_ble_eq_true rfl); (case k8_q9 => exact Nat.le_of_ble_eq_true rfl); (case h1_q9 => k_extra "MyRel"); (case h2_q9 => k_extra "MyRel"); k_whole; intro  h9 tk9 F9 N9; (try k_sweep); (try dsimp only); (try k_fold)))
  trivial
set_option maxRecDepth 100000 in
set_option maxHeartbeats 8000000 in
theorem equal_arrays_spec (w : World) (news : Led) (a b : Addr) (k₁ k₂ : TK) (ha : IsTy w.params news a k₁) (hb : IsTy w.params news b k₂) :
    Spec w 134 [.ref a, .ref b] 920 9100 news (fun r nx => nx = news ∧ r = .bool (arrB k₁ k₂)) := by
  unfold Spec
  intro p loose mean mg mb gd cn cs a₀ ccd cl outer A₀ base h₀ L m s Q E B F X N T hk hret
  refine IsTy.elim ha fun _ _ d ts tn tf tl size fields level module label hidden exno h1 h2 hx => ?_
  clear ha
  refine IsTy.elim hb fun _ _ d' ts' tn' tf' tl' size' fields' level' module' label' hidden' exno' h1' h2' hy => ?_
  clear hb
  rcases TK.arrOr k₁ with rfl | e3
  · rcases TK.arrOr k₂ with rfl | e4
    · obtain ⟨c, cb, cq, rfl, hc⟩ := hx rfl
      obtain ⟨c', cb', cq', rfl, hc'⟩ := hy rfl
      have hC := IsTy.chr_of hc
      have hC' := IsTy.chr_of hc'
      k_extra "MyStp"
      all_goals ((try dsimp only); refine hret _ _ _ _ (And.intro rfl ?_) (by k_asm) (by k_extra "MyLed"))
      all_goals (first | rfl | decide | (simp_all [arrB]; done))
    · have e5 : (k₂.form != "array") = true := by simp [bne, e4]
      k_extra "MyStp"
      all_goals ((try dsimp only); refine hret _ _ _ _ (And.intro rfl ?_) (by k_asm) (by k_extra "MyLed"))
      all_goals (simp_all [arrB]; done)
  · have e5 : (k₁.form != "array") = true := by simp [bne, e3]
    k_extra "MyStp"
    all_goals ((try dsimp only); refine hret _ _ _ _ (And.intro rfl ?_) (by k_asm) (by k_extra "MyLed"))
    all_goals (simp_all [arrB]; done)
theorem equal_arrays_cps {news : Led} {k₁ k₂ : TK} (C : Value → Led → Prop) (h9 : C (.bool (arrB k₁ k₂)) (news)) : ∀ r nx, (nx = news ∧ r = .bool (arrB k₁ k₂)) → C r nx := by
  rintro r nx ⟨rfl, rfl⟩
  exact h9 


theorem word_10 : True := by
  k_with "call ref" => (k_here; (with_reducible show wpAny _ _ (call (Value.ref 134) _) _ _ _); k_dflt (refine' Spec.useC (equal_arrays_spec _ _ _ _ _ _ ?h1_q9 ?h2_q9) equal_arrays_cps ?k1_q9 ?k2_q9 ?k3_q9 ?k4_q9 ?k5_q9 ?k6_q9 ?k7_q9 ?k8_q9 ?_; (case k1_q9 => k_asm); (case k2_q9 => k_asm); (case k3_q9 => k_asm); (case k4_q9 => k_extra "MyLed"); (case k5_q9 => k_asm); (case k6_q9 => first | exact rfl | assumption); (case k7_q9 => exact Nat.le_of_ble_eq_true rfl); (case k8_q9 => exact Nat.le_of_ble_eq_true rfl); (case h1_q9 => k_extra "MyRel"); (case h2_q9 => k_extra "MyRel"); k_whole; intro  h9 tk9 F9 N9; (try k_sweep); (try dsimp only); (try k_fold)))
  trivial
set_option maxRecDepth 100000 in
set_option maxHeartbeats 8000000 in
theorem assignable_string_spec (w : World) (news : Led) (a : Addr) (k : TK) (l : Int) (tl : Tok) (ha : IsTy w.params news a k) :
    Spec w 141 [.ref a, .int l tl] 920 9100 news (fun r nx => nx = news ∧ ∃ t, r = .str (strC k l).str t) := by
  unfold Spec
  intro p loose mean mg mb gd cn cs a₀ ccd cl outer A₀ base h₀ L m s Q E B F X N T hk hret
  have ha' := ha
  refine IsTy.elim ha' fun _ _ d ts tn tf tl size fields level module label hidden exno h1 h2 hx => ?_
  clear ha'
  k_extra "MyStp"
  all_goals ((try dsimp only); refine hret _ _ _ _ (And.intro rfl ⟨_, congrArg (Value.str · _) ?_⟩) (by k_asm) (by k_extra "MyLed"))
  all_goals (simp [strC, CK.str, -beq_iff_eq, *]; done)
theorem assignable_string_cps {news : Led} {k : TK} {l : Int} (C : Value → Led → Prop) (h9 : ∀ t, C (.str (strC k l).str t) (news)) : ∀ r nx, (nx = news ∧ ∃ t, r = .str (strC k l).str t) → C r nx := by
  rintro r nx ⟨rfl, ⟨y1, rfl⟩⟩
  exact h9 y1


theorem word_11 : True := by
  k_with "call ref" => (k_here; (with_reducible show wpAny _ _ (call (Value.ref 141) _) _ _ _); k_dflt (refine' Spec.useC (assignable_string_spec _ _ _ _ _ _ ?h1_q9) assignable_string_cps ?k1_q9 ?k2_q9 ?k3_q9 ?k4_q9 ?k5_q9 ?k6_q9 ?k7_q9 ?k8_q9 ?_; (case k1_q9 => k_asm); (case k2_q9 => k_asm); (case k3_q9 => k_asm); (case k4_q9 => k_extra "MyLed"); (case k5_q9 => k_asm); (case k6_q9 => first | exact rfl | assumption); (case k7_q9 => exact Nat.le_of_ble_eq_true rfl); (case k8_q9 => exact Nat.le_of_ble_eq_true rfl); (case h1_q9 => k_extra "MyRel"); k_whole; intro t9 h9 tk9 F9 N9; (try k_sweep); (try dsimp only); (try k_fold)))
  trivial

theorem tick_node {prog : Program} {w : World} {A : Around} {env : Env} {E : Value → Shared → Prop} {s : Shared} {Q : Flow → Shared → Prop} (h : wpAny (model prog w) A (execs [] env) Q E s) : wpAny (model prog w) A (execs [] env) Q E s := by
  first | (walk1; fail) | exact h
def nodeEs (P : Params) (ts : Nat → Tok) (op : Str) (top : Tok) (pl : Int) (tp : Tok) (ty kids value : Value) : List DictEntry :=
  [⟨PyData.keyHash P "op", .str "op" (ts 0), .str op top⟩, ⟨PyData.keyHash P "place", .str "place" (ts 1), .int pl tp⟩, ⟨PyData.keyHash P "type", .str "type" (ts 2), ty⟩, ⟨PyData.keyHash P "kids", .str "kids" (ts 3), kids⟩, ⟨PyData.keyHash P "value", .str "value" (ts 4), value⟩, ⟨PyData.keyHash P "sure", .str "sure" (ts 5), .bool false⟩]
def IsNode0 (P : Params) (news : Led) (a : Addr) (op : Str) (pl : Int) (ty kids value : Value) : Prop :=
  ∃ (d : Addr) (ts : Nat → Tok) (top tp : Tok), (a, instObj 39 d) ∈ news ∧ (d, dictOf (nodeEs P ts op top pl tp ty kids value) 6) ∈ news
theorem IsNode0.mono {P : Params} {news news' : Led} {a : Addr} {op : Str} {pl : Int} {ty kids value : Value} (h : IsNode0 P news a op pl ty kids value) (hs : ∀ p ∈ news, p ∈ news') : IsNode0 P news' a op pl ty kids value := by
  obtain ⟨d, ts, top, tp, h1, h2⟩ := h
  exact ⟨d, ts, top, tp, hs _ h1, hs _ h2⟩
def objEs (P : Params) (ts : Nat → Tok) (name : Value) (kind : Str) (tk : Tok) (ty place exported : Value) (ro : Bool) (level module value slot offset number isparam narrowed : Value) : List DictEntry :=
  [⟨PyData.keyHash P "name", .str "name" (ts 0), name⟩, ⟨PyData.keyHash P "kind", .str "kind" (ts 1), .str kind tk⟩, ⟨PyData.keyHash P "type", .str "type" (ts 2), ty⟩, ⟨PyData.keyHash P "place", .str "place" (ts 3), place⟩, ⟨PyData.keyHash P "exported", .str "exported" (ts 4), exported⟩,
   ⟨PyData.keyHash P "readonly", .str "readonly" (ts 5), .bool ro⟩, ⟨PyData.keyHash P "level", .str "level" (ts 6), level⟩, ⟨PyData.keyHash P "module", .str "module" (ts 7), module⟩, ⟨PyData.keyHash P "value", .str "value" (ts 8), value⟩, ⟨PyData.keyHash P "slot", .str "slot" (ts 9), slot⟩, ⟨PyData.keyHash P "offset", .str "offset" (ts 10), offset⟩,
   ⟨PyData.keyHash P "number", .str "number" (ts 11), number⟩, ⟨PyData.keyHash P "isparam", .str "isparam" (ts 12), isparam⟩, ⟨PyData.keyHash P "narrowed", .str "narrowed" (ts 13), narrowed⟩]
def IsObj (P : Params) (news : Led) (a : Addr) (kind : Str) (ty : Value) (ro : Bool) : Prop :=
  ∃ (d : Addr) (ts : Nat → Tok) (tk : Tok) (name place exported level module value slot offset number isparam narrowed : Value), (a, instObj 298 d) ∈ news ∧ (d, dictOf (objEs P ts name kind tk ty place exported ro level module value slot offset number isparam narrowed) 14) ∈ news
theorem IsObj.mono {P : Params} {news news' : Led} {a : Addr} {kind : Str} {ty : Value} {ro : Bool} (h : IsObj P news a kind ty ro) (hs : ∀ p ∈ news, p ∈ news') : IsObj P news' a kind ty ro := by
  obtain ⟨d, ts, tk, name, place, exported, level, module, value, slot, offset, number, isparam, narrowed, h1, h2⟩ := h
  exact ⟨d, ts, tk, name, place, exported, level, module, value, slot, offset, number, isparam, narrowed, hs _ h1, hs _ h2⟩
theorem IsNode0.elim {P : Params} {news : Led} {a : Addr} {op : Str} {pl : Int} {ty kids value : Value} {C : Prop} (h : IsNode0 P news a op pl ty kids value)
    (k : ∀ (d : Addr) (ts : Nat → Tok) (top tp : Tok), (a, instObj 39 d) ∈ news → (d, dictOf (nodeEs P ts op top pl tp ty kids value) 6) ∈ news → C) : C := by
  obtain ⟨d, ts, top, tp, h1, h2⟩ := h
  exact k d ts top tp h1 h2
theorem IsObj.elim {P : Params} {news : Led} {a : Addr} {kind : Str} {ty : Value} {ro : Bool} {C : Prop} (h : IsObj P news a kind ty ro)
    (k : ∀ (d : Addr) (ts : Nat → Tok) (tk : Tok) (name place exported level module value slot offset number isparam narrowed : Value), (a, instObj 298 d) ∈ news → (d, dictOf (objEs P ts name kind tk ty place exported ro level module value slot offset number isparam narrowed) 14) ∈ news → C) : C := by
  obtain ⟨d, ts, tk, name, place, exported, level, module, value, slot, offset, number, isparam, narrowed, h1, h2⟩ := h
  exact k d ts tk name place exported level module value slot offset number isparam narrowed h1 h2
/-- what a side of the law may be: a text of one sign or two, a call, a variable (read-only or not) -/
inductive SD where
  | con (two : Bool) (n : Int)
  | call (k : TK)
  | var (k : TK) (ro : Bool)
def SD.op : SD → Str
  | .con _ _ => "const" | .call _ => "call" | .var _ _ => "var"
def SD.k : SD → TK
  | .con two n => .str n (if two then 3 else 2) | .call k => k | .var k _ => k
def SD.isVar : SD → Bool
  | .var _ _ => true
  | _ => false
def SD.ro : SD → Bool
  | .var _ ro => ro
  | _ => false
def conStr (two : Bool) : Str := if two then "ab" else "a"
def SideV (P : Params) (news : Led) (value : Value) : SD → Prop
  | .con two _ => ∃ t, value = .str (conStr two) t
  | .call _ => True
  | .var _ ro => ∃ o k y, value = .ref o ∧ IsObj P news o k y ro
theorem SideV.mono {P : Params} {news news' : Led} {v : Value} {sd : SD} (h : SideV P news v sd) (hs : ∀ p ∈ news, p ∈ news') : SideV P news' v sd := by
  cases sd with
  | con _ _ => exact h
  | call _ => exact h
  | var _ _ => obtain ⟨o, k, y, e, h⟩ := h; exact ⟨o, k, y, e, h.mono hs⟩
def IsSide (P : Params) (news : Led) (a : Addr) (sd : SD) (pl : Int) : Prop :=
  ∃ (ty : Addr) (kids value : Value), IsNode0 P news a sd.op pl (.ref ty) kids value ∧ IsTy P news ty sd.k ∧ SideV P news value sd
theorem IsSide.mono {P : Params} {news news' : Led} {a : Addr} {sd : SD} {pl : Int} (h : IsSide P news a sd pl) (hs : ∀ p ∈ news, p ∈ news') : IsSide P news' a sd pl := by
  obtain ⟨ty, kids, value, h1, h2, h3⟩ := h
  exact ⟨ty, kids, value, h1.mono hs, h2.mono hs, h3.mono hs⟩

theorem IsSide.elim {P : Params} {news : Led} {a : Addr} {sd : SD} {pl : Int} {C : Prop} (h : IsSide P news a sd pl)
    (k : ∀ (ty : Addr) (kids value : Value) (d : Addr) (ts : Nat → Tok) (top tp : Tok), (a, instObj 39 d) ∈ news → (d, dictOf (nodeEs P ts sd.op top pl tp (.ref ty) kids value) 6) ∈ news → IsTy P news ty sd.k → SideV P news value sd → C) : C := by
  obtain ⟨ty, kids, value, h1, h2, h3⟩ := h
  exact h1.elim fun d ts top tp m1 m2 => k ty kids value d ts top tp m1 m2 h2 h3
set_option maxRecDepth 100000 in
set_option maxHeartbeats 8000000 in
theorem is_designator_spec (w : World) (news : Led) (a : Addr) (sd : SD) (pl : Int) (ha : IsSide w.params news a sd pl) :
    Spec w 57 [.ref a] 960 9500 news (fun r nx => nx = news ∧ r = .bool sd.isVar) := by
  w_top off
  unfold Spec
  k_fill
  intro p loose mean mg mb gd cn cs a₀ ccd cl outer A₀ base h₀ L m s Q E B F X N T hk hret
  refine IsSide.elim ha fun ty kids value d ts top tp h1 h2 _ _ => ?_
  clear ha
  cases sd
  all_goals dsimp only [SD.op] at h2
  all_goals k_extra "MyStp"
  all_goals ((try dsimp only); refine hret _ _ _ _ (And.intro rfl ?_) (by k_asm) (by k_extra "MyLed"))
  all_goals (rfl)
theorem is_designator_cps {news : Led} {sd : SD} (C : Value → Led → Prop) (h9 : C (.bool sd.isVar) (news)) : ∀ r nx, (nx = news ∧ r = .bool sd.isVar) → C r nx := by
  rintro r nx ⟨rfl, rfl⟩
  exact h9 


theorem word_12 : True := by
  k_with "call ref" => (k_here; (with_reducible show wpAny _ _ (call (Value.ref 57) _) _ _ _); k_dflt (refine' Spec.useC (is_designator_spec _ _ _ _ _ ?h1_q9) is_designator_cps ?k1_q9 ?k2_q9 ?k3_q9 ?k4_q9 ?k5_q9 ?k6_q9 ?k7_q9 ?k8_q9 ?_; (case k1_q9 => k_asm); (case k2_q9 => k_asm); (case k3_q9 => k_asm); (case k4_q9 => k_extra "MyLed"); (case k5_q9 => k_asm); (case k6_q9 => first | exact rfl | assumption); (case k7_q9 => exact Nat.le_of_ble_eq_true rfl); (case k8_q9 => exact Nat.le_of_ble_eq_true rfl); (case h1_q9 => k_extra "MyRel"); k_whole; intro  h9 tk9 F9 N9; (try k_sweep); (try dsimp only); (try k_fold)))
  trivial
set_option maxRecDepth 100000 in
set_option maxHeartbeats 8000000 in
theorem is_readonly_spec (w : World) (news : Led) (a : Addr) (sd : SD) (pl : Int) (ha : IsSide w.params news a sd pl) :
    Spec w 71 [.ref a] 940 9300 news (fun r nx => nx = news ∧ r = .bool sd.ro) := by
  unfold Spec
  intro p loose mean mg mb gd cn cs a₀ ccd cl outer A₀ base h₀ L m s Q E B F X N T hk hret
  refine IsSide.elim ha fun ty kids value d ts top tp h1 h2 _ hv => ?_
  clear ha
  cases sd
  all_goals dsimp only [SD.op] at h2
  case var k ro =>
    obtain ⟨o, ok, y, rfl, he2⟩ := hv
    refine IsObj.elim he2 fun d' ts' tk' name place exported level module value slot offset number isparam narrowed h1' h2' => ?_
    clear he2
    k_extra "MyStp"
    all_goals ((try dsimp only); refine hret _ _ _ _ (And.intro rfl ?_) (by k_asm) (by k_extra "MyLed"))
    all_goals (rfl)
  all_goals k_extra "MyStp"
  all_goals ((try dsimp only); refine hret _ _ _ _ (And.intro rfl ?_) (by k_asm) (by k_extra "MyLed"))
  all_goals (rfl)
theorem is_readonly_cps {news : Led} {sd : SD} (C : Value → Led → Prop) (h9 : C (.bool sd.ro) (news)) : ∀ r nx, (nx = news ∧ r = .bool sd.ro) → C r nx := by
  rintro r nx ⟨rfl, rfl⟩
  exact h9 


theorem word_13 : True := by
  k_with "call ref" => (k_here; (with_reducible show wpAny _ _ (call (Value.ref 71) _) _ _ _); k_dflt (refine' Spec.useC (is_readonly_spec _ _ _ _ _ ?h1_q9) is_readonly_cps ?k1_q9 ?k2_q9 ?k3_q9 ?k4_q9 ?k5_q9 ?k6_q9 ?k7_q9 ?k8_q9 ?_; (case k1_q9 => k_asm); (case k2_q9 => k_asm); (case k3_q9 => k_asm); (case k4_q9 => k_extra "MyLed"); (case k5_q9 => k_asm); (case k6_q9 => first | exact rfl | assumption); (case k7_q9 => exact Nat.le_of_ble_eq_true rfl); (case k8_q9 => exact Nat.le_of_ble_eq_true rfl); (case h1_q9 => k_extra "MyRel"); k_whole; intro  h9 tk9 F9 N9; (try k_sweep); (try dsimp only); (try k_fold)))
  trivial

theorem tick_pass {prog : Program} {w : World} {A : Around} {env : Env} {E : Value → Shared → Prop} {s : Shared} {Q : Flow → Shared → Prop} (h : wpAny (model prog w) A (execs [] env) Q E s) : wpAny (model prog w) A (execs [] env) Q E s := by
  first | (walk1; fail) | exact h
def asgC (t v : TK) : CK := if t.num = v.num then .ok else if intB t = true ∧ intB v = true then .ok else if (v.form == "string") = true then strC t v.len else if extB v t = true ∨ arrB t v = true then .ok else .inc
def fitV (t v : TK) : Bool := if opnB t = true then v.form == "array" else if (t.form == "record") = true then extB v t else decide (t.num = v.num)
def varC (isVar ro : Bool) (t v : TK) : CK := if isVar = false then .nav else if ro = true then .ro else if fitV t v = true then .ok else .inc
def structC (t v : TK) : CK := if opnB t = true then (if (v.form == "string") = true ∨ (v.form == "array") = true then .ok else .inc) else if (t.form == "record") = true then (if extB v t = true then .ok else .inc) else if t.num = v.num ∨ (arrB t v = true ∧ v.len = t.len) then .ok else .inc
def passC (par ro : Bool) (t : TK) (sd : SD) : CK := if par = true then (if ro = true then structC t sd.k else varC sd.isVar sd.ro t sd.k) else asgC t sd.k
def kindS (par : Bool) : Str := if par then "par" else "var"

set_option maxRecDepth 100000 in
set_option maxHeartbeats 8000000 in
theorem assignable_spec (w : World) (news : Led) (t a : Addr) (k : TK) (sd : SD) (pl : Int) (ht : IsTy w.params news t k) (ha : IsSide w.params news a sd pl) :
    Spec w 155 [.ref t, .ref a] 900 8900 news (fun r nx => nx = news ∧ ∃ u, r = .str (asgC k sd.k).str u) := by
  w_top off
  unfold Spec
  k_fill
  intro p loose mean mg mb gd cn cs a₀ ccd cl outer A₀ base h₀ L m s Q E B F X N T hk hret
  refine IsSide.elim ha fun ty kids value d ts top tp h1 h2 hty _ => ?_
  clear ha
  have ht' := ht
  have hv' := hty
  refine IsTy.elim ht' fun _ _ d ts tn tf tl size fields level module label hidden exno h3 h4 _ => ?_
  clear ht'
  refine IsTy.elim hv' fun _ _ d' ts' tn' tf' tl' size' fields' level' module' label' hidden' exno' h3' h4' _ => ?_
  clear hv'
  have e1 := TK.not_proc k
  have e2 := TK.not_nil sd.k
  have e3 : (k.form != "none") = true := by simp [bne, TK.not_none k]
  k_extra "MyStp"
  all_goals ((try dsimp only); refine hret _ _ _ _ (And.intro rfl ⟨_, congrArg (Value.str · _) ?_⟩) (by k_asm) (by k_extra "MyLed"))
  all_goals (simp [asgC, CK.str, -beq_iff_eq, *]; done)
theorem assignable_cps {news : Led} {k : TK} {sd : SD} (C : Value → Led → Prop) (h9 : ∀ u, C (.str (asgC k sd.k).str u) (news)) : ∀ r nx, (nx = news ∧ ∃ u, r = .str (asgC k sd.k).str u) → C r nx := by
  rintro r nx ⟨rfl, ⟨y1, rfl⟩⟩
  exact h9 y1


theorem word_14 : True := by
  k_with "call ref" => (k_here; (with_reducible show wpAny _ _ (call (Value.ref 155) _) _ _ _); k_dflt (refine' Spec.useC (assignable_spec _ _ _ _ _ _ _ ?h1_q9 ?h2_q9) assignable_cps ?k1_q9 ?k2_q9 ?k3_q9 ?k4_q9 ?k5_q9 ?k6_q9 ?k7_q9 ?k8_q9 ?_; (case k1_q9 => k_asm); (case k2_q9 => k_asm); (case k3_q9 => k_asm); (case k4_q9 => k_extra "MyLed"); (case k5_q9 => k_asm); (case k6_q9 => first | exact rfl | assumption); (case k7_q9 => exact Nat.le_of_ble_eq_true rfl); (case k8_q9 => exact Nat.le_of_ble_eq_true rfl); (case h1_q9 => k_extra "MyRel"); (case h2_q9 => k_extra "MyRel"); k_whole; intro t9 h9 tk9 F9 N9; (try k_sweep); (try dsimp only); (try k_fold)))
  trivial
set_option maxRecDepth 100000 in
set_option maxHeartbeats 8000000 in
theorem passable_variable_spec (w : World) (news : Led) (t a : Addr) (k : TK) (sd : SD) (pl : Int) (ht : IsTy w.params news t k) (ha : IsSide w.params news a sd pl) :
    Spec w 162 [.ref t, .ref a] 900 8900 news (fun r nx => nx = news ∧ ∃ u, r = .str (varC sd.isVar sd.ro k sd.k).str u) := by
  unfold Spec
  intro p loose mean mg mb gd cn cs a₀ ccd cl outer A₀ base h₀ L m s Q E B F X N T hk hret
  have ha' := ha
  refine IsSide.elim ha' fun ty kids value d ts top tp h1 h2 hty _ => ?_
  clear ha'
  have ht' := ht
  have hv' := hty
  refine IsTy.elim ht' fun _ _ d ts tn tf tl size fields level module label hidden exno h3 h4 hx => ?_
  clear ht'
  refine IsTy.elim hv' fun _ _ d' ts' tn' tf' tl' size' fields' level' module' label' hidden' exno' h3' h4' hy => ?_
  clear hv'
  cases e1 : sd.isVar
  · k_extra "MyStp"
    all_goals ((try dsimp only); refine hret _ _ _ _ (And.intro rfl ⟨_, congrArg (Value.str · _) ?_⟩) (by k_asm) (by k_extra "MyLed"))
    all_goals (simp [varC, CK.str, -beq_iff_eq, *]; done)
  cases e2 : sd.ro
  rotate_left
  · k_extra "MyStp"
    all_goals ((try dsimp only); refine hret _ _ _ _ (And.intro rfl ⟨_, congrArg (Value.str · _) ?_⟩) (by k_asm) (by k_extra "MyLed"))
    all_goals (simp [varC, CK.str, -beq_iff_eq, *]; done)
  generalize sd.k = v at *
  rcases TK.arrOr k with rfl | e3
  · obtain ⟨c, cb, cq, rfl, hc⟩ := hx rfl
    have hC := IsTy.chr_of hc
    rcases TK.arrOr v with rfl | e4
    · obtain ⟨c', cb', cq', rfl, hc'⟩ := hy rfl
      have hC' := IsTy.chr_of hc'
      k_extra "MyStp"
      all_goals ((try dsimp only); refine hret _ _ _ _ (And.intro rfl ⟨_, congrArg (Value.str · _) ?_⟩) (by k_asm) (by k_extra "MyLed"))
      all_goals (rw [e1, e2]; decide)
    · k_extra "MyStp"
      all_goals ((try dsimp only); refine hret _ _ _ _ (And.intro rfl ⟨_, congrArg (Value.str · _) ?_⟩) (by k_asm) (by k_extra "MyLed"))
      all_goals (simp [varC, fitV, opn_arr, CK.str, -beq_iff_eq, *]; done)
  · have e5 : opnB k = false := e3
    k_extra "MyStp"
    all_goals ((try dsimp only); refine hret _ _ _ _ (And.intro rfl ⟨_, congrArg (Value.str · _) ?_⟩) (by k_asm) (by k_extra "MyLed"))
    all_goals (simp [varC, fitV, CK.str, -beq_iff_eq, *]; done)
theorem passable_variable_cps {news : Led} {k : TK} {sd : SD} (C : Value → Led → Prop) (h9 : ∀ u, C (.str (varC sd.isVar sd.ro k sd.k).str u) (news)) : ∀ r nx, (nx = news ∧ ∃ u, r = .str (varC sd.isVar sd.ro k sd.k).str u) → C r nx := by
  rintro r nx ⟨rfl, ⟨y1, rfl⟩⟩
  exact h9 y1


theorem word_15 : True := by
  k_with "call ref" => (k_here; (with_reducible show wpAny _ _ (call (Value.ref 162) _) _ _ _); k_dflt (refine' Spec.useC (passable_variable_spec _ _ _ _ _ _ _ ?h1_q9 ?h2_q9) passable_variable_cps ?k1_q9 ?k2_q9 ?k3_q9 ?k4_q9 ?k5_q9 ?k6_q9 ?k7_q9 ?k8_q9 ?_; (case k1_q9 => k_asm); (case k2_q9 => k_asm); (case k3_q9 => k_asm); (case k4_q9 => k_extra "MyLed"); (case k5_q9 => k_asm); (case k6_q9 => first | exact rfl | assumption); (case k7_q9 => exact Nat.le_of_ble_eq_true rfl); (case k8_q9 => exact Nat.le_of_ble_eq_true rfl); (case h1_q9 => k_extra "MyRel"); (case h2_q9 => k_extra "MyRel"); k_whole; intro t9 h9 tk9 F9 N9; (try k_sweep); (try dsimp only); (try k_fold)))
  trivial
set_option maxRecDepth 100000 in
set_option maxHeartbeats 8000000 in
theorem passable_structure_spec (w : World) (news : Led) (t a : Addr) (k : TK) (sd : SD) (pl : Int) (ht : IsTy w.params news t k) (ha : IsSide w.params news a sd pl) :
    Spec w 169 [.ref t, .ref a] 900 8900 news (fun r nx => nx = news ∧ ∃ u, r = .str (structC k sd.k).str u) := by
  unfold Spec
  intro p loose mean mg mb gd cn cs a₀ ccd cl outer A₀ base h₀ L m s Q E B F X N T hk hret
  have ha' := ha
  refine IsSide.elim ha' fun ty kids value d ts top tp h1 h2 hty _ => ?_
  clear ha'
  have ht' := ht
  have hv' := hty
  refine IsTy.elim ht' fun _ _ d ts tn tf tl size fields level module label hidden exno h3 h4 hx => ?_
  clear ht'
  refine IsTy.elim hv' fun _ _ d' ts' tn' tf' tl' size' fields' level' module' label' hidden' exno' h3' h4' hy => ?_
  clear hv'
  generalize sd.k = v at *
  rcases TK.arrOr k with rfl | e3
  · obtain ⟨c, cb, cq, rfl, hc⟩ := hx rfl
    have hC := IsTy.chr_of hc
    refine IsTy.elim hC fun _ _ d ts tn tf tl size fields level module label hidden exno h5 h6 _ => ?_
    rcases TK.arrOr v with rfl | e4
    · obtain ⟨c', cb', cq', rfl, hc'⟩ := hy rfl
      have hC' := IsTy.chr_of hc'
      k_extra "MyStp"
      all_goals ((try dsimp only); refine hret _ _ _ _ (And.intro rfl ⟨_, congrArg (Value.str · _) ?_⟩) (by k_asm) (by k_extra "MyLed"))
      all_goals (decide)
    · k_extra "MyStp"
      all_goals ((try dsimp only); refine hret _ _ _ _ (And.intro rfl ⟨_, congrArg (Value.str · _) ?_⟩) (by k_asm) (by k_extra "MyLed"))
      all_goals (simp [structC, opn_arr, CK.str, -beq_iff_eq, *]; done)
  · have e5 : opnB k = false := e3
    k_extra "MyStp"
    all_goals ((try dsimp only); refine hret _ _ _ _ (And.intro rfl ⟨_, congrArg (Value.str · _) ?_⟩) (by k_asm) (by k_extra "MyLed"))
    all_goals (first | (exfalso; contradiction) | (simp [structC, CK.str, -beq_iff_eq, *]; done))
theorem passable_structure_cps {news : Led} {k : TK} {sd : SD} (C : Value → Led → Prop) (h9 : ∀ u, C (.str (structC k sd.k).str u) (news)) : ∀ r nx, (nx = news ∧ ∃ u, r = .str (structC k sd.k).str u) → C r nx := by
  rintro r nx ⟨rfl, ⟨y1, rfl⟩⟩
  exact h9 y1


theorem word_16 : True := by
  k_with "call ref" => (k_here; (with_reducible show wpAny _ _ (call (Value.ref 169) _) _ _ _); k_dflt (refine' Spec.useC (passable_structure_spec _ _ _ _ _ _ _ ?h1_q9 ?h2_q9) passable_structure_cps ?k1_q9 ?k2_q9 ?k3_q9 ?k4_q9 ?k5_q9 ?k6_q9 ?k7_q9 ?k8_q9 ?_; (case k1_q9 => k_asm); (case k2_q9 => k_asm); (case k3_q9 => k_asm); (case k4_q9 => k_extra "MyLed"); (case k5_q9 => k_asm); (case k6_q9 => first | exact rfl | assumption); (case k7_q9 => exact Nat.le_of_ble_eq_true rfl); (case k8_q9 => exact Nat.le_of_ble_eq_true rfl); (case h1_q9 => k_extra "MyRel"); (case h2_q9 => k_extra "MyRel"); k_whole; intro t9 h9 tk9 F9 N9; (try k_sweep); (try dsimp only); (try k_fold)))
  trivial
set_option maxRecDepth 100000 in
set_option maxHeartbeats 8000000 in
theorem passable_spec (w : World) (news : Led) (par a t : Addr) (ip ro : Bool) (k : TK) (sd : SD) (pl : Int) (hp : IsObj w.params news par (kindS ip) (.ref t) ro) (ht : IsTy w.params news t k) (ha : IsSide w.params news a sd pl) :
    Spec w 176 [.ref par, .ref a] 880 8700 news (fun r nx => nx = news ∧ ∃ u, r = .str (passC ip ro k sd).str u) := by
  unfold Spec
  intro p loose mean mg mb gd cn cs a₀ ccd cl outer A₀ base h₀ L m s Q E B F X N T hk hret
  refine IsObj.elim hp fun d ts tk name place exported level module value slot offset number isparam narrowed h1 h2 => ?_
  clear hp
  cases ip
  all_goals (try simp only [kindS, Bool.false_eq_true, if_false, if_true] at h2)
  · k_extra "MyStp"
    all_goals ((try dsimp only); refine hret _ _ _ _ (And.intro rfl ⟨_, rfl⟩) (by k_asm) (by k_extra "MyLed"))
  · k_extra "MyStp"
    all_goals ((try dsimp only); refine hret _ _ _ _ (And.intro rfl ⟨_, congrArg (Value.str · _) ?_⟩) (by k_asm) (by k_extra "MyLed"))
    all_goals (simp [passC, *]; done)
theorem passable_cps {news : Led} {ip ro : Bool} {k : TK} {sd : SD} (C : Value → Led → Prop) (h9 : ∀ u, C (.str (passC ip ro k sd).str u) (news)) : ∀ r nx, (nx = news ∧ ∃ u, r = .str (passC ip ro k sd).str u) → C r nx := by
  rintro r nx ⟨rfl, ⟨y1, rfl⟩⟩
  exact h9 y1


theorem word_17 : True := by
  k_with "call ref" => (k_here; (with_reducible show wpAny _ _ (call (Value.ref 176) _) _ _ _); k_dflt (refine' Spec.useC (passable_spec _ _ _ _ _ _ _ _ _ _ ?h0_q9 ?h1_q9 ?h2_q9) passable_cps ?k1_q9 ?k2_q9 ?k3_q9 ?k4_q9 ?k5_q9 ?k6_q9 ?k7_q9 ?k8_q9 ?_; (case k1_q9 => k_asm); (case k2_q9 => k_asm); (case k3_q9 => k_asm); (case k4_q9 => k_extra "MyLed"); (case k5_q9 => k_asm); (case k6_q9 => first | exact rfl | assumption); (case k7_q9 => exact Nat.le_of_ble_eq_true rfl); (case k8_q9 => exact Nat.le_of_ble_eq_true rfl); (case h0_q9 => k_extra "MyRel"); (case h1_q9 => k_extra "MyRel"); (case h2_q9 => k_extra "MyRel"); k_whole; intro t9 h9 tk9 F9 N9; (try k_sweep); (try dsimp only); (try k_fold)))
  trivial

theorem tick_errs {prog : Program} {w : World} {A : Around} {env : Env} {E : Value → Shared → Prop} {s : Shared} {Q : Flow → Shared → Prop} (h : wpAny (model prog w) A (execs [] env) Q E s) : wpAny (model prog w) A (execs [] env) Q E s := by
  first | (walk1; fail) | exact h

theorem led_rot {h₀ h : Heap} {L a b c : Addr} {x y z : Obj} {news : Led} (N : News h₀ L h ((a, x) :: (b, y) :: (c, z) :: news)) : News h₀ L h ((b, y) :: (c, z) :: ([(a, x)] ++ news)) :=
  led_drop N (fun p hp => by
    simp only [List.cons_append, List.nil_append, List.mem_cons] at hp ⊢
    rcases hp with h | h | h | h <;> simp [h])

theorem word_18 : True := by
  k_with "MyLt" => first | assumption | exact List.forall_mem_nil _ | (refine List.forall_mem_cons.mpr ⟨?_, ?_⟩; (focus (refine ltN ?_; (try dsimp only); first | k_extra "MyLt1" | omega)); k_extra "MyLt") | exact AllLt.sub (by assumption) (by k_extra "MySub") | exact AllLt.sub (allLt_of (by assumption)) (by k_extra "MySub") | (refine List.forall_mem_append.mpr ⟨?_, ?_⟩; (focus (k_extra "MyLt")); k_extra "MyLt") | ((repeat (rename (_ ∧ _) => l9; obtain ⟨_, _⟩ := l9)); exact AllLt.sub (by assumption) (by k_extra "MySub"))
  trivial
def errEs (P : Params) (ts : Nat → Tok) (RL PD : Addr) : List DictEntry := [⟨PyData.keyHash P "rows", .str "rows" (ts 0), .ref RL⟩, ⟨PyData.keyHash P "places", .str "places" (ts 1), .ref PD⟩]
/-- an error list at EO: its rows at RL, its places at PD -/
def IsErr (P : Params) (news : Led) (EO RL PD : Addr) : Prop := ∃ (d : Addr) (ts : Nat → Tok), (EO, instObj 256 d) ∈ news ∧ (d, dictOf (errEs P ts RL PD) 2) ∈ news ∧ (PD == sysModules) = false ∧ @Ne Nat RL PD
theorem IsErr.mono {P : Params} {news news' : Led} {EO RL PD : Addr} (h : IsErr P news EO RL PD) (hs : ∀ p ∈ news, p ∈ news') : IsErr P news' EO RL PD := by
  obtain ⟨d, ts, h1, h2, h3, h4⟩ := h
  exact ⟨d, ts, hs _ h1, hs _ h2, h3, h4⟩
theorem IsErr.elim {P : Params} {news : Led} {EO RL PD : Addr} {C : Prop} (h : IsErr P news EO RL PD)
    (k : ∀ (d : Addr) (ts : Nat → Tok), (EO, instObj 256 d) ∈ news → (d, dictOf (errEs P ts RL PD) 2) ∈ news → (PD == sysModules) = false → @Ne Nat RL PD → C) : C := by
  obtain ⟨d, ts, h1, h2, h3, h4⟩ := h
  exact k d ts h1 h2 h3 h4
def rowD (r : Int × Str) : Dat := .tuple [.int r.1, .str r.2]
def rowsP (rs : List (Int × Str)) : List (PyData × PyData) := rs.map fun r => (PyData.int r.1, PyData.str r.2)
/-- the rows stand in vs, their places in the dict o -/
def Rows (w : World) (news : Led) (vs : List Value) (o : Obj) (rs : List (Int × Str)) : Prop :=
  DatAll news vs (rs.map rowD) ∧ rs.length ≤ 20 ∧ ∃ kvs, o.IsDictOf (intKind Challenge.rw_nu0337_01.row.prog w) kvs ∧ PyProof.V.FlatPairs PyData.int kvs (rowsP rs)
theorem lookup_none (i : Int) : ∀ rs : List (Int × Str), (∀ r ∈ rs, r.1 ≠ i) → lookup (.int i) (rowsP rs) = none
  | [], _ => rfl
  | r :: rs, h => by
    have h1 := h r (.head _)
    show (if PySem.Spec.same (.int r.1) (.int i) then _ else _) = none
    rw [PyProof.V.same_int, decide_eq_false h1]
    exact lookup_none i rs fun x hx => h x (.tail _ hx)
theorem putD_new (i : Int) (x : Str) (rs : List (Int × Str)) (h : ∀ r ∈ rs, r.1 ≠ i) : PyProof.V.putD (.int i) (.str x) (rowsP rs) = rowsP (rs ++ [(i, x)]) := by
  unfold PyProof.V.putD
  have e : (rowsP rs).any (fun p => PySem.Spec.same p.1 (.int i)) = false := by
    rw [List.any_eq_false]
    intro p hp
    obtain ⟨r, hr, rfl⟩ := List.mem_map.mp hp
    simp only [PyProof.V.same_int, decide_eq_true_eq]
    exact h r hr
  rw [e]
  simp [rowsP]
section
variable {w : World} {A : Around} {E : Value → Shared → Prop} {s : Shared} {h₀ : Heap} {L d : Addr} {m : Str → Option Value} {news : Led} {o : Obj} {g : Obj → Led}
theorem errs_notin {kvs : List (Int × Value)} {rs : List (Int × Str)} {i : Int} {t : Tok} {Q : Value → Shared → Prop} (N : News h₀ L s.heap news) (hp : (d, o) ∈ news) (lo : (d == sysModules) = false) (hd : o.IsDictOf (intKind Challenge.rw_nu0337_01.row.prog w) kvs) (hf : PyProof.V.FlatPairs PyData.int kvs (rowsP rs))
    (hl : ∀ r ∈ rs, r.1 ≠ i) (h : Q (.bool true) { s with toks := s.toks + 1 }) : wpAny (model Challenge.rw_nu0337_01.row.prog w) A (compareOp .NotIn (.int i t) (.ref d)) Q E s :=
  notin_intTab (TabAt.ofNews N hp lo hd hf) (by rw [lookup_none i rs hl]; exact h)
theorem errs_set {kvs : List (Int × Value)} {rs : List (Int × Str)} {i : Int} {t u : Tok} {x : Str} {Q : Unit → Shared → Prop} (F : Fr h₀ L s.heap m) (N : News h₀ L s.heap news) (U : UpdF d o news g) (hd : o.IsDictOf (intKind Challenge.rw_nu0337_01.row.prog w) kvs) (hf : PyProof.V.FlatPairs PyData.int kvs (rowsP rs))
    (hl : ∀ r ∈ rs, r.1 ≠ i) (hz : rs.length ≤ 20)
    (h : ∀ h' o' kvs', Fr h₀ L h' m → News h₀ L h' (g o') → o'.IsDictOf (intKind Challenge.rw_nu0337_01.row.prog w) kvs' → PyProof.V.FlatPairs PyData.int kvs' (rowsP (rs ++ [(i, x)])) → Q () { s with heap := h', toks := s.toks + 1 }) : wpAny (model Challenge.rw_nu0337_01.row.prog w) A (setItem (.ref d) (.int i t) (.str x u)) Q E s :=
  setItem_K PyProof.V.same_int (intKind_is _ _ _ _) (PyProof.V.Flat.str _ _) F N U hd hf (fun h' o' F' N' hd' hf' => h h' o' _ F' N' hd' (putD_new i x rs hl ▸ hf')) (by rw [sizeLine_eq]; simp only [rowsP, List.length_map]; omega)
end
theorem word_19 : True := by
  k_with "compareOp NotIn int ref" => (k_here; (with_reducible rename PySem.Obj.IsDictOf _ _ _ => hd9); k_dflt (refine' errs_notin ?N_q9 ?p_q9 ?lo_q9 ?hd_q9 ?hf_q9 ?hl_q9 ?_; (case N_q9 => k_asm); (case p_q9 => k_mem); (case lo_q9 => k_asm); (case hd_q9 => k_asm); (case hf_q9 => k_asm); (case hl_q9 => k_asm); k_whole))
  trivial
local macro_rules | `(tactic| walk_at "compareOp NotIn int ref") => `(tactic| k_extra "compareOp NotIn int ref")
theorem word_20 : True := by
  k_with "setItem ref int" => (k_here; (with_reducible rename PySem.Obj.IsDictOf _ _ _ => hd9); k_dflt (refine' errs_set ?F_q9 ?N_q9 ?U_q9 ?hd_q9 ?hf_q9 ?hl_q9 ?hz_q9 ?_; (case F_q9 => k_asm); (case N_q9 => k_asm); (case U_q9 => k_updF); (case hd_q9 => k_asm); (case hf_q9 => k_asm); (case hl_q9 => k_asm); (case hz_q9 => k_asm); k_whole); intro h' o' kvs' F' N' hd' hf'; (try dsimp only at N'); (try k_sweep))
  trivial
local macro_rules | `(tactic| walk_at "setItem ref int") => `(tactic| k_extra "setItem ref int")

set_option maxRecDepth 100000 in
set_option maxHeartbeats 8000000 in
theorem mark_spec (w : World) (n0 news : Led) (EO RL PD : Addr) (vs : List Value) (n : Nat) (o : Obj) (rs : List (Int × Str)) (pl : Int) (tp : Tok) (c : Str) (tc : Tok)
    (hE : IsErr w.params n0 EO RL PD) (hs : ∀ p ∈ n0, p ∈ news) (hR : Rows w n0 vs o rs) (hz : rs.length < 20) (hl : ∀ r ∈ rs, r.1 ≠ pl) (s1 : ∀ p ∈ news, p.1 ≠ RL) (s2 : ∀ p ∈ news, p.1 ≠ PD) :
    Spec w 239 [.ref EO, .int pl tp, .str c tc] 960 9500 ((RL, listOf vs.toArray n) :: (PD, o) :: news)
      (fun r nx => r = .none ∧ ∃ tl vs' n' o', nx = (RL, listOf vs'.toArray n') :: (PD, o') :: (tl ++ news) ∧ Abv tl ((RL, listOf vs.toArray n) :: (PD, o) :: news) ∧ Rows w (tl ++ n0) vs' o' (rs ++ [(pl, c)])) := by
  w_top off
  unfold Spec
  k_fill
  intro p loose mean mg mb gd cn cs a₀ ccd cl outer A₀ base h₀ L m s Q E B F X N T hk hret
  refine IsErr.elim (hE.mono hs) fun d ts h1 h2 h3 h4 => ?_
  obtain ⟨hD, hz', kvs, hd, hf⟩ := hR
  have hv : vs.length ≤ 20 := by
    have := hD.length
    rw [List.length_map] at this
    omega
  k_extra "MyStp"
  all_goals (try dsimp only)
  all_goals (simp only [List.push_toArray] at *)
  all_goals refine hret _ _ _ _ ⟨rfl, [_], _, _, _, rfl, ?_, ?_⟩ (by k_asm) (led_rot (by assumption))
  · k_extra "MyAbv"
  · refine ⟨?_, by simp; omega, _, by assumption, by assumption⟩
    rw [List.map_append]
    exact DatAll.append (hD.mono fun p hp => List.mem_append_right _ hp) (.cons (.tuple (vs := [_, _]) (n := 0) List.mem_cons_self (.cons (.int _ _) (.cons (.str _ _) .nil))) .nil)

theorem mark_cps {w : World} {n0 news : Led} {RL PD : Addr} {vs : List Value} {n : Nat} {o : Obj} {rs : List (Int × Str)} {pl : Int} {c : Str} (C : Value → Led → Prop) (h9 : ∀ tl vs' n' o', (Abv tl ((RL, listOf vs.toArray n) :: (PD, o) :: news)) → (Rows w (tl ++ n0) vs' o' (rs ++ [(pl, c)])) → C (.none) ((RL, listOf vs'.toArray n') :: (PD, o') :: (tl ++ news))) : ∀ r nx, (r = .none ∧ ∃ tl vs' n' o', nx = (RL, listOf vs'.toArray n') :: (PD, o') :: (tl ++ news) ∧ Abv tl ((RL, listOf vs.toArray n) :: (PD, o) :: news) ∧ Rows w (tl ++ n0) vs' o' (rs ++ [(pl, c)])) → C r nx := by
  rintro r nx ⟨rfl, ⟨y1, y2, y3, y4, ⟨rfl, y5, y6⟩⟩⟩
  exact h9 y1 y2 y3 y4 y5 y6


theorem tick_conv {prog : Program} {w : World} {A : Around} {env : Env} {E : Value → Shared → Prop} {s : Shared} {Q : Flow → Shared → Prop} (h : wpAny (model prog w) A (execs [] env) Q E s) : wpAny (model prog w) A (execs [] env) Q E s := by
  first | (walk1; fail) | exact h

def typesEs (P : Params) (ts : Nat → Tok) (c : Int) (tc : Tok) (known : Value) (bo ch bt it : Addr) (ma ni : Value) (no : Addr) : List DictEntry :=
  [⟨PyData.keyHash P "counter", .str "counter" (ts 0), .int c tc⟩, ⟨PyData.keyHash P "known", .str "known" (ts 1), known⟩, ⟨PyData.keyHash P "boolean", .str "boolean" (ts 2), .ref bo⟩, ⟨PyData.keyHash P "char", .str "char" (ts 3), .ref ch⟩, ⟨PyData.keyHash P "byte", .str "byte" (ts 4), .ref bt⟩,
   ⟨PyData.keyHash P "integer", .str "integer" (ts 5), .ref it⟩, ⟨PyData.keyHash P "mask", .str "mask" (ts 6), ma⟩, ⟨PyData.keyHash P "nil", .str "nil" (ts 7), ni⟩, ⟨PyData.keyHash P "none", .str "none" (ts 8), .ref no⟩]
/-- the types' object, read only: its char, integer, boolean -/
def HasTypes (P : Params) (news : Led) (TO : Addr) : Prop :=
  ∃ (TD : Addr) (ts : Nat → Tok) (c : Int) (tc : Tok) (known : Value) (bo ch bt it : Addr) (ma ni : Value) (no : Addr), (TO, instObj 334 TD) ∈ news ∧ (TD, dictOf (typesEs P ts c tc known bo ch bt it ma ni no) 9) ∈ news ∧ IsTy P news ch .chr ∧ IsTy P news it .int ∧ IsTy P news bo .boo
theorem HasTypes.mono {P : Params} {news news' : Led} {TO : Addr} (h : HasTypes P news TO) (hs : ∀ p ∈ news, p ∈ news') : HasTypes P news' TO := by
  obtain ⟨TD, ts, c, tc, known, bo, ch, bt, it, ma, ni, no, h1, h2, h3, h4, h5⟩ := h
  exact ⟨TD, ts, c, tc, known, bo, ch, bt, it, ma, ni, no, hs _ h1, hs _ h2, h3.mono hs, h4.mono hs, h5.mono hs⟩

theorem HasTypes.elim {P : Params} {news : Led} {TO : Addr} {C : Prop} (h : HasTypes P news TO)
    (k : ∀ (TD : Addr) (ts : Nat → Tok) (c : Int) (tc : Tok) (known : Value) (bo ch bt it : Addr) (ma ni : Value) (no : Addr), (TO, instObj 334 TD) ∈ news → (TD, dictOf (typesEs P ts c tc known bo ch bt it ma ni no) 9) ∈ news → IsTy P news ch .chr → IsTy P news it .int → IsTy P news bo .boo → C) : C := by
  obtain ⟨TD, ts, c, tc, known, bo, ch, bt, it, ma, ni, no, h1, h2, h3, h4, h5⟩ := h
  exact k TD ts c tc known bo ch bt it ma ni no h1 h2 h3 h4 h5

theorem word_21 : True := by
  k_with "MyRel" => first | assumption | exact IsTy.mono (by assumption) (by k_extra "MySub") | exact IsSide.mono (by assumption) (by k_extra "MySub") | exact IsErr.mono (by assumption) (by k_extra "MySub") | exact HasTypes.mono (by assumption) (by k_extra "MySub") | exact IsObj.mono (by assumption) (by k_extra "MySub") | exact IsNode0.mono (by assumption) (by k_extra "MySub")
  k_with "MyLtAll" => (intro q9 h9; (refine ltN ?_); (repeat (rename (_ ∧ _) => l9; obtain ⟨_, _⟩ := l9)); (repeat (rename AllLt _ _ => l9; (try have l8 := ltN (ktn_ltOf l9 q9 (by k_extra "MyMem"))); clear l9)); (repeat (rename (∀ p ∈ _, Prod.fst p < _) => l9; (try have l8 := ltN (l9 q9 (by k_extra "MyMem"))); clear l9)); omega)
  k_with "MyLt" => first | assumption | exact List.forall_mem_nil _ | (refine List.forall_mem_cons.mpr ⟨?_, ?_⟩; (focus (refine ltN ?_; (try dsimp only); first | k_extra "MyLt1" | omega)); k_extra "MyLt") | exact AllLt.sub (by assumption) (by k_extra "MySub") | exact AllLt.sub (allLt_of (by assumption)) (by k_extra "MySub") | k_extra "MyLtAll" | (refine List.forall_mem_append.mpr ⟨?_, ?_⟩; (focus (k_extra "MyLt")); k_extra "MyLt")
  trivial
theorem IsNode0.intro {P : Params} {news : Led} {a d : Addr} {op : Str} {pl : Int} {ty kids value : Value} {t0 t1 t2 t3 t4 t5 top tp : Tok} (h1 : (a, instObj 39 d) ∈ news)
    (h2 : (d, dictOf [⟨PyData.keyHash P "op", .str "op" t0, .str op top⟩, ⟨PyData.keyHash P "place", .str "place" t1, .int pl tp⟩, ⟨PyData.keyHash P "type", .str "type" t2, ty⟩, ⟨PyData.keyHash P "kids", .str "kids" t3, kids⟩, ⟨PyData.keyHash P "value", .str "value" t4, value⟩, ⟨PyData.keyHash P "sure", .str "sure" t5, .bool false⟩] 6) ∈ news) :
    IsNode0 P news a op pl ty kids value := ⟨d, fun i => match i with | 0 => t0 | 1 => t1 | 2 => t2 | 3 => t3 | 4 => t4 | _ => t5, top, tp, h1, h2⟩

set_option maxRecDepth 100000 in
set_option maxHeartbeats 8000000 in
theorem node_spec (w : World) (news : Led) (op : Str) (top : Tok) (pl : Int) (tp : Tok) (ty kids value : Value) :
    Spec w 39 [.str op top, .int pl tp, ty, kids, value] 960 9500 news (fun r nx => ∃ a tl, r = .ref a ∧ nx = tl ++ news ∧ Abv tl news ∧ IsNode0 w.params tl a op pl ty kids value) := by
  w_top off
  unfold Spec
  k_fill
  intro p loose mean mg mb gd cn cs a₀ ccd cl outer A₀ base h₀ L m s Q E B F X N T hk hret
  k_extra "MyStp"
  all_goals ((try dsimp only); refine hret _ _ _ _ ⟨_, [_, _], rfl, rfl, ?_, ?_⟩ (by k_asm) (by assumption))
  · k_extra "MyAbv"
  · exact IsNode0.intro (by k_extra "MyMem") (by k_extra "MyMem")
theorem node_cps {w : World} {news : Led} {op : Str} {pl : Int} {ty kids value : Value} (C : Value → Led → Prop) (h9 : ∀ a tl, (Abv tl news) → (IsNode0 w.params tl a op pl ty kids value) → C (.ref a) (tl ++ news)) : ∀ r nx, (∃ a tl, r = .ref a ∧ nx = tl ++ news ∧ Abv tl news ∧ IsNode0 w.params tl a op pl ty kids value) → C r nx := by
  rintro r nx ⟨y1, y2, ⟨rfl, rfl, y3, y4⟩⟩
  exact h9 y1 y2 y3 y4

theorem word_22 : True := by
  k_with "call ref" => (k_here; (with_reducible show wpAny _ _ (call (Value.ref 39) _) _ _ _); k_dflt (refine' Spec.useC (node_spec _ _ _ _ _ _ _ _ _) node_cps ?k1_q9 ?k2_q9 ?k3_q9 ?k4_q9 ?k5_q9 ?k6_q9 ?k7_q9 ?k8_q9 ?_; (case k1_q9 => k_asm); (case k2_q9 => k_asm); (case k3_q9 => k_asm); (case k4_q9 => k_extra "MyLed"); (case k5_q9 => k_asm); (case k6_q9 => first | exact rfl | assumption); (case k7_q9 => exact Nat.le_of_ble_eq_true rfl); (case k8_q9 => exact Nat.le_of_ble_eq_true rfl); k_whole; intro a9 tl9 b9 n9 h9 tk9 F9 N9; (try k_sweep); (try dsimp only); (try k_fold)))
  trivial
theorem abv_snoc {tl news : Led} {a : Addr} {o : Obj} (h : Abv tl ((a, o) :: news)) (l : ∀ q ∈ news, @LT.lt Nat _ q.1 a) : Abv (tl ++ [(a, o)]) news := fun p hp q hq => by
  rcases List.mem_append.mp hp with hp | hp
  · exact h p hp q (.tail _ hq)
  · rw [List.mem_singleton.mp hp]
    exact l q hq

set_option maxRecDepth 100000 in
set_option maxHeartbeats 8000000 in
theorem const_spec (w : World) (news : Led) (t : Addr) (v : Value) (pl : Int) (tp : Tok) :
    Spec w 50 [.ref t, v, .int pl tp] 940 9300 news (fun r nx => ∃ a tl, r = .ref a ∧ nx = tl ++ news ∧ Abv tl news ∧ ∃ kids, IsNode0 w.params tl a "const" pl (.ref t) kids v) := by
  unfold Spec
  k_fill
  intro p loose mean mg mb gd cn cs a₀ ccd cl outer A₀ base h₀ L m s Q E B F X N T hk hret
  k_extra "MyStp"
  all_goals ((try dsimp only); refine hret _ _ _ _ ⟨_, _ ++ [_], rfl, List.append_cons _ _ _, abv_snoc (by assumption) (by assumption), _, IsNode0.mono (by assumption) (by k_extra "MySub")⟩ (by k_asm) (by assumption))
theorem const_cps {w : World} {news : Led} {t : Addr} {v : Value} {pl : Int} (C : Value → Led → Prop) (h9 : ∀ a tl, (Abv tl news) → ∀ kids, (IsNode0 w.params tl a "const" pl (.ref t) kids v) → C (.ref a) (tl ++ news)) : ∀ r nx, (∃ a tl, r = .ref a ∧ nx = tl ++ news ∧ Abv tl news ∧ ∃ kids, IsNode0 w.params tl a "const" pl (.ref t) kids v) → C r nx := by
  rintro r nx ⟨y1, y2, ⟨rfl, rfl, y3, ⟨y4, y5⟩⟩⟩
  exact h9 y1 y2 y3 y4 y5


theorem word_23 : True := by
  k_with "call ref" => (k_here; (with_reducible show wpAny _ _ (call (Value.ref 50) _) _ _ _); k_dflt (refine' Spec.useC (const_spec _ _ _ _ _ _) const_cps ?k1_q9 ?k2_q9 ?k3_q9 ?k4_q9 ?k5_q9 ?k6_q9 ?k7_q9 ?k8_q9 ?_; (case k1_q9 => k_asm); (case k2_q9 => k_asm); (case k3_q9 => k_asm); (case k4_q9 => k_extra "MyLed"); (case k5_q9 => k_asm); (case k6_q9 => first | exact rfl | assumption); (case k7_q9 => exact Nat.le_of_ble_eq_true rfl); (case k8_q9 => exact Nat.le_of_ble_eq_true rfl); k_whole; intro a9 tl9 b9 kids9 n9 h9 tk9 F9 N9; (try k_sweep); (try dsimp only); (try k_fold)))
  trivial
def letterB (t : TK) (sd : SD) : Bool := match sd with
  | .con two _ => t.form == "char" && !two
  | _ => false
/-- what convert hands back: the text of one sign as a char, else the node itself -/
def Told (P : Params) (led : Led) (v : Value) (node : Addr) (pl : Int) (lt : Bool) : Prop :=
  if lt = true then ∃ a ch kids t, v = .ref a ∧ IsNode0 P led a "const" pl (.ref ch) kids (.int 97 t) ∧ IsTy P led ch .chr else v = .ref node
theorem Told.mono {P : Params} {news news' : Led} {v : Value} {node : Addr} {pl : Int} {lt : Bool} (h : Told P news v node pl lt) (hs : ∀ p ∈ news, p ∈ news') : Told P news' v node pl lt := by
  unfold Told at *
  split at h
  · rename_i e
    rw [if_pos e]
    obtain ⟨a, ch, kids, t, e1, h1, h2⟩ := h
    exact ⟨a, ch, kids, t, e1, h1.mono hs, h2.mono hs⟩
  · rename_i e
    rw [if_neg e]
    exact h

set_option maxRecDepth 100000 in
set_option maxHeartbeats 8000000 in
theorem convert_spec (w : World) (n0 news : Led) (TO t a : Addr) (ev place : Value) (k : TK) (sd : SD) (pl : Int) (hT : HasTypes w.params n0 TO) (hs : ∀ p ∈ n0, p ∈ news) (ht : IsTy w.params news t k) (ha : IsSide w.params news a sd pl) :
    Spec w 183 [.ref TO, ev, .ref t, .ref a, place] 920 9100 news (fun r nx => ∃ tl, nx = tl ++ news ∧ Abv tl news ∧ Told w.params (tl ++ n0) r a pl (letterB k sd)) := by
  unfold Spec
  intro p loose mean mg mb gd cn cs a₀ ccd cl outer A₀ base h₀ L m s Q E B F X N T hk hret
  refine HasTypes.elim hT fun TD tts c tc known bo ch bt it ma ni no t1 t2 t3 t4 t5 => ?_
  clear hT
  have t1 := hs _ t1
  have t2 := hs _ t2
  refine IsSide.elim ha fun ty kids value d ts top tp h1 h2 hty hv => ?_
  clear ha
  refine IsTy.elim ht fun _ _ d ts tn tf tl size fields level module label hidden exno h3 h4 _ => ?_
  refine IsTy.elim hty fun _ _ d' ts' tn' tf' tl' size' fields' level' module' label' hidden' exno' h3' h4' _ => ?_
  have w1 : ∀ {h' : Heap}, News h₀ L h' news → News h₀ L h' ([] ++ news) := fun h => h
  rcases sd with ⟨two, n⟩ | k' | ⟨k', ro⟩
  all_goals dsimp only [SD.op, SD.k, TK.form] at h2 h4'
  · obtain ⟨tv, rfl⟩ := hv
    cases two
    all_goals simp only [conStr, Bool.false_eq_true, if_false, if_true] at h2
    · cases e1 : (k.form == "char")
      all_goals k_extra "MyStp"
      · all_goals ((try dsimp only); refine hret _ _ _ _ ⟨[], rfl, Abv.nil, by simp [Told, letterB, e1]⟩ (by k_asm) (by first | assumption | k_extra "MyLed"))
      · all_goals ((try dsimp only); refine hret _ _ _ _ ⟨_, rfl, by assumption, by simp only [Told, letterB, e1]; exact ⟨_, _, _, _, rfl, IsNode0.mono (by assumption) (by k_extra "MySub"), t3.mono (by k_extra "MySub")⟩⟩ (by k_asm) (by first | assumption | k_extra "MyLed"))
    · k_extra "MyStp"
      all_goals ((try dsimp only); refine hret _ _ _ _ ⟨[], rfl, Abv.nil, by simp [Told, letterB]⟩ (by k_asm) (by first | assumption | k_extra "MyLed"))
  · k_extra "MyStp"
    all_goals ((try dsimp only); refine hret _ _ _ _ ⟨[], rfl, Abv.nil, by simp [Told, letterB]⟩ (by k_asm) (by first | assumption | k_extra "MyLed"))
  · k_extra "MyStp"
    all_goals ((try dsimp only); refine hret _ _ _ _ ⟨[], rfl, Abv.nil, by simp [Told, letterB]⟩ (by k_asm) (by first | assumption | k_extra "MyLed"))
theorem convert_cps {w : World} {n0 news : Led} {a : Addr} {k : TK} {sd : SD} {pl : Int} (C : Value → Led → Prop) (h9 : ∀ r, ∀ tl, (Abv tl news) → (Told w.params (tl ++ n0) r a pl (letterB k sd)) → C r (tl ++ news)) : ∀ r nx, (∃ tl, nx = tl ++ news ∧ Abv tl news ∧ Told w.params (tl ++ n0) r a pl (letterB k sd)) → C r nx := by
  rintro r nx ⟨y1, ⟨rfl, y2, y3⟩⟩
  exact h9 r y1 y2 y3


theorem word_24 : True := by
  k_with "call ref" => (k_here; (with_reducible show wpAny _ _ (call (Value.ref 183) _) _ _ _); k_dflt (refine' Spec.useC (convert_spec _ _ _ _ _ _ _ _ _ _ _ ?h1_q9 ?h2_q9 ?h3_q9 ?h4_q9) convert_cps ?k1_q9 ?k2_q9 ?k3_q9 ?k4_q9 ?k5_q9 ?k6_q9 ?k7_q9 ?k8_q9 ?_; (case k1_q9 => k_asm); (case k2_q9 => k_asm); (case k3_q9 => k_asm); (case k4_q9 => k_extra "MyLed"); (case k5_q9 => k_asm); (case k6_q9 => first | exact rfl | assumption); (case k7_q9 => exact Nat.le_of_ble_eq_true rfl); (case k8_q9 => exact Nat.le_of_ble_eq_true rfl); (case h1_q9 => assumption); (case h2_q9 => k_extra "MySub"); (case h3_q9 => k_extra "MyRel"); (case h4_q9 => k_extra "MyRel"); k_whole; intro r9 tl9 b9 n9 h9 tk9 F9 N9; (try k_sweep); (try dsimp only); (try k_fold)))
  trivial

theorem tick_arg {prog : Program} {w : World} {A : Around} {env : Env} {E : Value → Shared → Prop} {s : Shared} {Q : Flow → Shared → Prop} (h : wpAny (model prog w) A (execs [] env) Q E s) : wpAny (model prog w) A (execs [] env) Q E s := by
  first | (walk1; fail) | exact h

def CK.isOk : CK → Bool
  | .ok => true
  | _ => false
theorem CK.ne_ok (c : CK) : (c.str != "") = !c.isOk := by cases c <;> decide
def markR (pl : Int) (c : CK) : List (Int × Str) := if c.isOk = true then [] else [(pl, c.str)]

theorem word_25 : True := by
  k_with "call ref" => (k_here; (with_reducible show wpAny _ _ (call (Value.ref 239) _) _ _ _); k_dflt (refine' Spec.useC (mark_spec _ _ _ _ _ _ _ _ _ _ _ _ _ _ ?h1_q9 ?h2_q9 ?h3_q9 ?h4_q9 ?h5_q9 ?h6_q9 ?h7_q9) mark_cps ?k1_q9 ?k2_q9 ?k3_q9 ?k4_q9 ?k5_q9 ?k6_q9 ?k7_q9 ?k8_q9 ?_; (case k1_q9 => k_asm); (case k2_q9 => k_asm); (case k3_q9 => k_asm); (case k4_q9 => k_extra "MyLed"); (case k5_q9 => k_asm); (case k6_q9 => first | exact rfl | assumption); (case k7_q9 => exact Nat.le_of_ble_eq_true rfl); (case k8_q9 => exact Nat.le_of_ble_eq_true rfl); (case h1_q9 => assumption); (case h2_q9 => k_extra "MySub"); (case h3_q9 => assumption); (case h4_q9 => first | assumption | decide); (case h5_q9 => first | assumption | exact fun _ h => nomatch h); (case h6_q9 => k_extra "MySep"); (case h7_q9 => k_extra "MySep"); k_whole; intro tl9 vs9 n9 o9 b9 w9 h9 tk9 F9 N9; (try k_sweep); (try dsimp only); (try k_fold)))
  trivial
set_option maxRecDepth 100000 in
set_option maxHeartbeats 8000000 in
theorem argument_spec (w : World) (n0 news : Led) (TO EO RL PD par a t : Addr) (vs : List Value) (n : Nat) (o : Obj) (rs : List (Int × Str)) (ip ro : Bool) (k : TK) (sd : SD) (pl : Int)
    (hs : ∀ p ∈ n0, p ∈ news) (hT : HasTypes w.params n0 TO) (hE : IsErr w.params n0 EO RL PD) (hR : Rows w n0 vs o rs) (hz : rs.length < 20) (hl : ∀ r ∈ rs, r.1 ≠ pl) (s1 : ∀ p ∈ news, p.1 ≠ RL) (s2 : ∀ p ∈ news, p.1 ≠ PD)
    (hp : IsObj w.params n0 par (kindS ip) (.ref t) ro) (ht : IsTy w.params n0 t k) (ha : IsSide w.params n0 a sd pl) :
    Spec w 204 [.ref TO, .ref EO, .ref par, .ref a] 860 8500 ((RL, listOf vs.toArray n) :: (PD, o) :: news)
      (fun r nx => ∃ tl vs' n' o', nx = (RL, listOf vs'.toArray n') :: (PD, o') :: (tl ++ news) ∧ Abv tl ((RL, listOf vs.toArray n) :: (PD, o) :: news) ∧ Rows w (tl ++ n0) vs' o' (rs ++ markR pl (passC ip ro k sd)) ∧
        Told w.params (tl ++ n0) r a pl ((passC ip ro k sd).isOk && letterB k sd)) := by
  w_top off
  unfold Spec
  k_fill
  intro p loose mean mg mb gd cn cs a₀ ccd cl outer A₀ base h₀ L m s Q E B F X N T hk hret
  have hs2 : ∀ p ∈ n0, p ∈ (RL, listOf vs.toArray n) :: (PD, o) :: news := fun p hp => .tail _ (.tail _ (hs p hp))
  have hp' := hp.mono hs
  have ht' := ht.mono hs
  have ha' := ha.mono hs
  refine IsSide.elim ha' fun ty kids value d ts top tp h1 h2 hty hv => ?_
  refine IsObj.elim hp' fun d' ts' tk name place exported level module value' slot offset number isparam narrowed h3 h4 => ?_
  refine IsErr.elim (hE.mono hs) fun ed ets e1 e2 e3 e4 => ?_
  k_extra "MyStp"
  · have e5 : (passC ip ro k sd).isOk = false := by
      have h9 := CK.ne_ok (passC ip ro k sd)
      rw [‹((passC ip ro k sd).str != _) = true›] at h9
      simpa using h9.symm
    all_goals ((try dsimp only); refine hret _ _ _ _ ⟨_, _, _, _, rfl, by assumption, by simp only [markR, e5, Bool.false_eq_true, if_false]; assumption, by simp only [Told, e5, Bool.false_and, Bool.false_eq_true, if_false]⟩ (by k_asm) (by first | assumption | k_extra "MyLed"))
  · have e5 : (passC ip ro k sd).isOk = true := by
      have h9 := CK.ne_ok (passC ip ro k sd)
      rw [‹((passC ip ro k sd).str != _) = false›] at h9
      simpa using h9.symm
    all_goals ((try dsimp only); refine hret _ _ _ _ ⟨_, _, _, _, rfl, by assumption, by simp only [markR, e5, if_true, List.append_nil]; exact ⟨hR.1.mono (by k_extra "MySub"), hR.2⟩, by simp only [e5, Bool.true_and]; assumption⟩ (by k_asm) (by first | assumption | k_extra "MyLed"))

theorem argument_cps {w : World} {n0 news : Led} {RL PD a : Addr} {vs : List Value} {n : Nat} {o : Obj} {rs : List (Int × Str)} {ip ro : Bool} {k : TK} {sd : SD} {pl : Int} (C : Value → Led → Prop) (h9 : ∀ r, ∀ tl vs' n' o', (Abv tl ((RL, listOf vs.toArray n) :: (PD, o) :: news)) → (Rows w (tl ++ n0) vs' o' (rs ++ markR pl (passC ip ro k sd))) → (Told w.params (tl ++ n0) r a pl ((passC ip ro k sd).isOk && letterB k sd)) → C r ((RL, listOf vs'.toArray n') :: (PD, o') :: (tl ++ news))) : ∀ r nx, (∃ tl vs' n' o', nx = (RL, listOf vs'.toArray n') :: (PD, o') :: (tl ++ news) ∧ Abv tl ((RL, listOf vs.toArray n) :: (PD, o) :: news) ∧ Rows w (tl ++ n0) vs' o' (rs ++ markR pl (passC ip ro k sd)) ∧ Told w.params (tl ++ n0) r a pl ((passC ip ro k sd).isOk && letterB k sd)) → C r nx := by
  rintro r nx ⟨y1, y2, y3, y4, ⟨rfl, y5, y6, y7⟩⟩
  exact h9 r y1 y2 y3 y4 y5 y6 y7


theorem tick_call {prog : Program} {w : World} {A : Around} {env : Env} {E : Value → Shared → Prop} {s : Shared} {Q : Flow → Shared → Prop} (h : wpAny (model prog w) A (execs [] env) Q E s) : wpAny (model prog w) A (execs [] env) Q E s := by
  first | (walk1; fail) | exact h

structure ParD where
  ip : Bool
  ro : Bool
  k : TK
def Pars (P : Params) (news : Led) (vs : List Value) (ps : List ParD) : Prop :=
  vs.length = ps.length ∧ ∀ (i : Nat) (p : ParD), ps[i]? = some p → ∃ (a t : Addr), vs[i]? = some (Value.ref a) ∧ IsObj P news a (kindS p.ip) (.ref t) p.ro ∧ IsTy P news t p.k
theorem Pars.mono {P : Params} {news news' : Led} {vs : List Value} {ps : List ParD} (h : Pars P news vs ps) (hs : ∀ p ∈ news, p ∈ news') : Pars P news' vs ps :=
  ⟨h.1, fun i p e => by obtain ⟨a, t, h1, h2, h3⟩ := h.2 i p e; exact ⟨a, t, h1, h2.mono hs, h3.mono hs⟩⟩
def Sides (P : Params) (news : Led) (vs : List Value) (ss : List SD) : Prop :=
  vs.length = ss.length ∧ ∀ (i : Nat) (d : SD), ss[i]? = some d → ∃ (a : Addr), vs[i]? = some (Value.ref a) ∧ IsSide P news a d (20 + 10 * (i : Int))
theorem Sides.mono {P : Params} {news news' : Led} {vs : List Value} {ss : List SD} (h : Sides P news vs ss) (hs : ∀ p ∈ news, p ∈ news') : Sides P news' vs ss :=
  ⟨h.1, fun i p e => by obtain ⟨a, h1, h2⟩ := h.2 i p e; exact ⟨a, h1, h2.mono hs⟩⟩
def codeAt (ps : List ParD) (ss : List SD) (i : Nat) : CK := match ps[i]?, ss[i]? with
  | some p, some d => passC p.ip p.ro p.k d
  | _, _ => .ok
def letAt (ps : List ParD) (ss : List SD) (i : Nat) : Bool := match ps[i]?, ss[i]? with
  | some p, some d => letterB p.k d
  | _, _ => false
def argR (ps : List ParD) (ss : List SD) : Nat → List (Int × Str)
  | 0 => []
  | i + 1 => argR ps ss i ++ markR (20 + 10 * (i : Int)) (codeAt ps ss i)
theorem markR_lt {pl : Int} {c : CK} : ∀ r ∈ markR pl c, r.1 = pl := by
  intro r hr
  unfold markR at hr
  split at hr
  · cases hr
  · rw [List.mem_singleton.mp hr]
theorem markR_len {pl : Int} {c : CK} : (markR pl c).length ≤ 1 := by
  unfold markR
  split <;> simp
theorem argR_lt (ps : List ParD) (ss : List SD) : ∀ (i : Nat), ∀ r ∈ argR ps ss i, 20 ≤ r.1 ∧ r.1 < 20 + 10 * (i : Int)
  | 0, r, h => by cases h
  | i + 1, r, h => by
    rcases List.mem_append.mp h with h | h
    · have := argR_lt ps ss i r h
      omega
    · have := markR_lt r h
      omega
theorem argR_len (ps : List ParD) (ss : List SD) : ∀ (i : Nat), (argR ps ss i).length ≤ i
  | 0 => Nat.le_refl _
  | i + 1 => by
    have h1 := argR_len ps ss i
    have h2 := markR_len (pl := 20 + 10 * (i : Int)) (c := codeAt ps ss i)
    simp only [argR, List.length_append]
    omega

section
variable {prog : Program} {w : World} {A : Around} {E : Value → Shared → Prop} {s : Shared} {env : Env} {h₀ : Heap} {x : Str} {body : List Stmt} {Q : Flow → Shared → Prop}
theorem map_but {m₁ m₀ : Str → Option Value} {v : Option Value} (h : ∀ y, y ≠ x → m₁ y = m₀ y) : (fun y => if y = x then v else m₁ y) = fun y => if y = x then v else m₀ y := by
  funext y
  by_cases e : y = x
  · simp [e]
  · simp only [if_neg e]; exact h y e
/-- a for over a range that stores its own name alone, by a word of the turn's number and the ledger -/
theorem my_range {r : Addr} {a₀ b₀ : Int} {t₀ u₀ v₀ : Tok} {n : Nat} {m₀ : Str → Option Value} {news : Led} (J : Nat → Led → Prop)
    (hh : A.handled = none) (hr : IsRange s.heap r a₀ b₀ 1 t₀ u₀ v₀) (hsmall : Builtin.Range.small a₀ b₀ 1 = true) (hn : Builtin.Range.rangeSize a₀ b₀ 1 = (n : Int)) (F : Fr h₀ env.locals s.heap m₀) (N : News h₀ env.locals s.heap news) (hj : J 0 news)
    (turn : ∀ (i : Nat) t nx h tk own, i < n → TbOff own nx → J i nx → Fr h₀ env.locals h (fun y => if y = x then some (.int (a₀ + (i : Int)) t) else m₀ y) → News h₀ env.locals h (nx ++ own) →
      wpAny (model prog w) A (execs body env) (TbPost h₀ env.locals (fun m' nx' => (∀ y, y ≠ x → m' y = m₀ y) ∧ J (i + 1) nx') own { s with heap := h, toks := tk } Q) E { s with heap := h, toks := tk })
    (done : ∀ (u : Str → Option Value) nx h tk, J n nx → Fr h₀ env.locals h (fun y => if y = x then u y else m₀ y) → News h₀ env.locals h nx → Q .next { s with heap := h, toks := tk }) :
    wpAny (model prog w) A (pyIter (.ref r)) (fun it s₂ => LoopAtV prog w A h₀ env x body Q E it s₂) E s := by
  refine tbr_invG (fun i m nx => (∀ y, y ≠ x → m y = m₀ y) ∧ J i nx) hh hr hsmall hn F N ⟨fun _ _ => rfl, hj⟩ ?_ ?_
  · rintro i k t m₁ nx h tk own hk hoff ⟨hm, hJ⟩ F₁ N₁
    have hi : i < n := by
      have := (List.getElem?_eq_some_iff.mp hk).1
      rwa [rangeKs_length] at this
    have hk' : k = a₀ + (i : Int) := by
      have e : (rangeKs a₀ n)[i]? = some (a₀ + (i : Int)) := by simp [rangeKs, hi]
      rw [e] at hk
      exact (Option.some.inj hk).symm
    subst hk'
    rw [map_but hm] at F₁
    exact turn i t nx h tk own hi hoff hJ F₁ N₁
  · rintro m₁ nx h tk ⟨hm, hJ⟩ F₁ N₁
    have e : (fun y => if y = x then m₁ y else m₀ y) = m₁ := by
      funext y
      by_cases e : y = x
      · simp [e]
      · simp only [if_neg e]; exact (hm y e).symm
    exact done m₁ nx h tk hJ (by rw [e]; exact F₁) N₁
theorem item_led {L : Addr} {news : Led} {value slice : PySem.Expr} {l : Addr} {vs : List Value} {n : Nat} {k : Int} {u : Tok} {v : Value} {Q : Value → Shared → Prop} (N : News h₀ L s.heap news) (hm : (l, listOf vs.toArray n) ∈ news)
    (h0 : 0 ≤ k) (hhi : k < 2 ^ 63) (hx : vs[k.toNat]? = some v) (h : Q v s)
    (hs : subscripted slice false (.ref l) (.int k u) = operate [.ref l, .int k u] (getItem (.ref l) (.int k u)) := by with_unfolding_all rfl) :
    wpAny (model prog w) A (subscriptTail value slice (.ref l) (.int k u)) Q E s :=
  have hl : s.heap.IsList l vs.toArray := ⟨_, N.get hm, rfl, n, rfl⟩
  tail_any hl.typeIs slot_list_getitem.lookup (wpAny_getItem_list hl h0 hhi (by simpa using hx) h) hs
end
section
variable {prog : Program} {w : World} {A : Around} {E : Value → Shared → Prop} {s : Shared} {h₀ : Heap}
theorem len_led {L : Addr} {news : Led} {l : Addr} {vs : List Value} {n : Nat} {Q : Value → Shared → Prop} (N : News h₀ L s.heap news) (hm : (l, listOf vs.toArray n) ∈ news) (hf : vs.length < 1000)
    (h : ∀ t tk', Q (.int (vs.length : Int) t) { s with toks := tk' }) : wpAny (model prog w) A (call (.builtin "len") [.ref l]) Q E s :=
  call_len_list ⟨_, N.get hm, rfl, n, rfl⟩ (by rw [List.size_toArray]; omega) (by rw [List.size_toArray]; exact h _ _)
end
theorem word_26 : True := by
  k_with "call builtin:len" => (k_here; (with_reducible show wpAny _ _ (call (Value.builtin "len") [Value.ref _]) _ _ _); k_dflt (refine' len_led ?k1_q9 ?k2_q9 ?k3_q9 ?_; (case k1_q9 => k_asm); (case k2_q9 => k_mem); (case k3_q9 => first | omega | (simp only [List.length_append, List.length_cons, List.length_nil]; omega)); k_whole); intro t9 tk9)
  trivial
local macro_rules | `(tactic| walk_at "call builtin:len") => `(tactic| k_extra "call builtin:len")
theorem word_27 : True := by
  k_with "call type:range" => (k_here; (rename Fr _ _ _ _ => F'); (rename News _ _ _ _ => N'); (with_unfolding_all refine range1_rows F' N' ?_; intro _ _ _ _ _ _ _ _ _))
  trivial
local macro_rules | `(tactic| walk_at "call type:range") => `(tactic| k_extra "call type:range")
local macro_rules | `(tactic| walk_at "pyIter ref") => `(tactic| k_extra "pyIter ref")
theorem word_28 : True := by
  k_with "exec For Name Call cons nil" => (k_here; (rename Fr _ _ _ _ => lF'); (with_unfolding_all refine' For_invVF lF' ?k1_q9 ?k2_q9 ?_; (case k1_q9 => exact rfl); (case k2_q9 => exact rfl); k_whole))
  trivial
local macro_rules | `(tactic| walk_at "exec For Name Call cons nil") => `(tactic| k_extra "exec For Name Call cons nil")
theorem word_29 : True := by
  k_with "subscriptTail" => (k_here; (with_reducible show wpAny _ _ (subscriptTail _ _ (Value.ref _) (Value.int _ _)) _ _ _); k_dflt (refine' item_led ?k1_q9 ?k2_q9 ?k3_q9 ?k4_q9 ?k5_q9 ?_; (case k1_q9 => k_asm); (case k2_q9 => k_mem); (case k3_q9 => omega); (case k4_q9 => omega); (case k5_q9 => with_reducible assumption); k_whole))
  trivial
local macro_rules | `(tactic| walk_at "subscriptTail") => `(tactic| k_extra "subscriptTail")

def bfS (nn : Bool) : Str := if nn then "none" else "integer"
def useS (st nn : Bool) : Str := if st = true ∧ nn = false then "is_a_function" else if st = false ∧ nn = true then "not_a_function" else ""

set_option maxRecDepth 100000 in
set_option maxHeartbeats 8000000 in
theorem use_code_spec (w : World) (news : Led) (a : Addr) (n : Int) (l : Int) (b q : Value) (nn st : Bool) (h : IsTy0 w.params news a n (bfS nn) l b q) :
    Spec w 211 [.ref a, .bool st] 960 9500 news (fun r nx => nx = news ∧ ∃ t, r = .str (useS st nn) t) := by
  w_top off
  unfold Spec
  k_fill
  intro p loose mean mg mb gd cn cs a₀ ccd cl outer A₀ base h₀ L m s Q E B F X N T hk hret
  refine IsTy0.elim h fun d ts tn tf tl size fields level module label hidden exno h1 h2 => ?_
  clear h
  cases st <;> cases nn
  all_goals simp only [bfS, Bool.false_eq_true, if_false, if_true] at h2
  all_goals k_extra "MyStp"
  all_goals ((try dsimp only); refine hret _ _ _ _ (And.intro rfl ⟨_, rfl⟩) (by k_asm) (by k_extra "MyLed"))
theorem use_code_cps {news : Led} {nn st : Bool} (C : Value → Led → Prop) (h9 : ∀ t, C (.str (useS st nn) t) (news)) : ∀ r nx, (nx = news ∧ ∃ t, r = .str (useS st nn) t) → C r nx := by
  rintro r nx ⟨rfl, ⟨y1, rfl⟩⟩
  exact h9 y1


theorem word_30 : True := by
  k_with "call ref" => (k_here; (with_reducible show wpAny _ _ (call (Value.ref 211) _) _ _ _); k_dflt (refine' Spec.useC (use_code_spec _ _ _ _ _ _ _ _ _ ?h1_q9) use_code_cps ?k1_q9 ?k2_q9 ?k3_q9 ?k4_q9 ?k5_q9 ?k6_q9 ?k7_q9 ?k8_q9 ?_; (case k1_q9 => k_asm); (case k2_q9 => k_asm); (case k3_q9 => k_asm); (case k4_q9 => k_extra "MyLed"); (case k5_q9 => k_asm); (case k6_q9 => first | exact rfl | assumption); (case k7_q9 => exact Nat.le_of_ble_eq_true rfl); (case k8_q9 => exact Nat.le_of_ble_eq_true rfl); (case h1_q9 => k_extra "MyRel"); k_whole; intro t9 h9 tk9 F9 N9; (try k_sweep); (try dsimp only); (try k_fold)))
  trivial

theorem tick_callp {prog : Program} {w : World} {A : Around} {env : Env} {E : Value → Shared → Prop} {s : Shared} {Q : Flow → Shared → Prop} (h : wpAny (model prog w) A (execs [] env) Q E s) : wpAny (model prog w) A (execs [] env) Q E s := by
  first | (walk1; fail) | exact h


theorem word_31 : True := by
  k_with "MyRel" => first | assumption | exact IsTy0.mono (by assumption) (by k_extra "MySub") | exact IsTy.mono (by assumption) (by k_extra "MySub") | exact IsSide.mono (by assumption) (by k_extra "MySub") | exact IsErr.mono (by assumption) (by k_extra "MySub") | exact HasTypes.mono (by assumption) (by k_extra "MySub") | exact IsObj.mono (by assumption) (by k_extra "MySub") | exact IsNode0.mono (by assumption) (by k_extra "MySub")
  trivial
def useR (st nn : Bool) (np ns : Nat) : List (Int × Str) :=
  if (useS st nn != "") = true then [(5, useS st nn)] else if (ns : Int) = (np : Int) then [] else [(9, "wrong_count")]
def Kids (P : Params) (led : Led) (D : Addr) (kvs svs : List Value) (ps : List ParD) (ss : List SD) (cnt : Nat) : Prop :=
  kvs.length = cnt + 1 ∧ kvs[0]? = some (Value.ref D) ∧ ∀ i : Nat, i < cnt → ∃ (a : Addr) (v : Value), svs[i]? = some (Value.ref a) ∧ kvs[i + 1]? = some v ∧ Told P led v a (20 + 10 * (i : Int)) ((codeAt ps ss i).isOk && letAt ps ss i)
theorem Kids.mono {P : Params} {led led' : Led} {D : Addr} {kvs svs : List Value} {ps : List ParD} {ss : List SD} {cnt : Nat} (h : Kids P led D kvs svs ps ss cnt) (hs : ∀ p ∈ led, p ∈ led') : Kids P led' D kvs svs ps ss cnt :=
  ⟨h.1, h.2.1, fun i hi => by obtain ⟨a, v, h1, h2, h3⟩ := h.2.2 i hi; exact ⟨a, v, h1, h2, h3.mono hs⟩⟩
theorem Kids.snoc {P : Params} {led led' : Led} {D : Addr} {kvs svs : List Value} {ps : List ParD} {ss : List SD} {cnt : Nat} {a : Addr} {v : Value} (h : Kids P led D kvs svs ps ss cnt) (hs : ∀ p ∈ led, p ∈ led')
    (ha : svs[cnt]? = some (Value.ref a)) (ht : Told P led' v a (20 + 10 * (cnt : Int)) ((codeAt ps ss cnt).isOk && letAt ps ss cnt)) : Kids P led' D (kvs ++ [v]) svs ps ss (cnt + 1) := by
  have h' := h.mono hs
  refine ⟨by rw [List.length_append, h.1]; rfl, by rw [List.getElem?_append_left (by rw [h.1]; omega)]; exact h.2.1, fun i hi => ?_⟩
  by_cases e : i = cnt
  · subst e
    exact ⟨a, v, ha, by rw [List.getElem?_append_right (by rw [h.1]; omega), h.1]; simp, ht⟩
  · obtain ⟨b, u, h1, h2, h3⟩ := h'.2.2 i (by omega)
    exact ⟨b, u, h1, by rw [List.getElem?_append_left (by rw [h.1]; omega)]; exact h2, h3⟩
theorem useR_lt (st nn : Bool) (np ns : Nat) : ∀ r ∈ useR st nn np ns, r.1 < 20 := by
  intro r hr
  unfold useR at hr
  split at hr
  · rw [List.mem_singleton.mp hr]; simp
  · split at hr
    · cases hr
    · rw [List.mem_singleton.mp hr]; simp
theorem useR_len (st nn : Bool) (np ns : Nat) : (useR st nn np ns).length ≤ 1 := by
  unfold useR
  split
  · simp
  · split <;> simp
theorem sep_of_lt {tl : Led} {d : Addr} (h : ∀ q ∈ tl, @LT.lt Nat _ q.1 d) : ∀ p ∈ tl, p.1 ≠ d := fun p hp => Nat.ne_of_lt (h p hp)
theorem sep_of_off {own nx : Led} {d : Addr} {o : Obj} (h : TbOff own nx) (hm : (d, o) ∈ nx) : ∀ p ∈ own, p.1 ≠ d := fun p hp => h p hp _ hm
theorem led_nil3 {h₀ h : Heap} {L : Addr} {a b c : Addr × Obj} {news : Led} (N : News h₀ L h (a :: b :: c :: news)) : News h₀ L h (a :: b :: c :: ([] ++ news)) := N
section
variable {w : World} {A : Around} {E : Value → Shared → Prop} {s : Shared} {env : Env} {h₀ : Heap} {x : Str} {body : List Stmt} {Q : Flow → Shared → Prop}
def CallJ (w : World) (news led0 : Led) (D RL PD K : Addr) (svs : List Value) (ps : List ParD) (ss : List SD) (bR : List (Int × Str)) (i : Nat) (nx : Led) : Prop :=
  ∃ (tl : Led) (vs : List Value) (n : Nat) (o : Obj) (kvs : List Value) (nk : Nat), nx = (K, listOf kvs.toArray nk) :: (RL, listOf vs.toArray n) :: (PD, o) :: (tl ++ news) ∧ Abv tl led0 ∧ (∀ p ∈ tl, p.1 ≠ K) ∧
    Rows w (tl ++ news) vs o (bR ++ argR ps ss i) ∧ Kids w.params (tl ++ news) D kvs svs ps ss i
theorem CallJ.intro {news led0 : Led} {D RL PD K : Addr} {svs : List Value} {ps : List ParD} {ss : List SD} {bR : List (Int × Str)} {i : Nat} {tl : Led} {vs : List Value} {n : Nat} {o : Obj} {kvs : List Value} {nk : Nat} (a1 : Abv tl led0) (a2 : ∀ p ∈ tl, p.1 ≠ K)
    (hR : Rows w (tl ++ news) vs o (bR ++ argR ps ss i)) (hK : Kids w.params (tl ++ news) D kvs svs ps ss i) : CallJ w news led0 D RL PD K svs ps ss bR i ((K, listOf kvs.toArray nk) :: (RL, listOf vs.toArray n) :: (PD, o) :: (tl ++ news)) := ⟨tl, vs, n, o, kvs, nk, rfl, a1, a2, hR, hK⟩
theorem call_loop {r : Addr} {t₀ u₀ v₀ : Tok} {cnt : Nat} {m₀ : Str → Option Value} {news led0 : Led} {D RL PD K : Addr} {svs : List Value} {ps : List ParD} {ss : List SD} {bR : List (Int × Str)} {tl1 : Led} {vs1 : List Value} {n1 : Nat} {o1 : Obj} {nk1 : Nat}
    (hh : A.handled = none) (hr : IsRange s.heap r 0 (cnt : Int) 1 t₀ u₀ v₀) (hc : cnt ≤ 10) (F : Fr h₀ env.locals s.heap m₀) (N : News h₀ env.locals s.heap ((K, listOf [Value.ref D].toArray nk1) :: (RL, listOf vs1.toArray n1) :: (PD, o1) :: (tl1 ++ news)))
    (a1 : Abv tl1 led0) (a2 : ∀ p ∈ tl1, p.1 ≠ K) (a3 : ∀ q ∈ led0, @LT.lt Nat _ q.1 K) (a4 : ∀ p ∈ news, p ∈ led0) (hR : Rows w (tl1 ++ news) vs1 o1 bR)
    (turn : ∀ (i : Nat) t tl vs n o kvs nk h tk own, i < cnt → (∀ p ∈ news, p.1 ≠ K) → (∀ p ∈ own, p.1 ≠ K) → TbOff own ((K, listOf kvs.toArray nk) :: (RL, listOf vs.toArray n) :: (PD, o) :: (tl ++ news)) → Abv tl led0 → (∀ p ∈ tl, p.1 ≠ K) → Rows w (tl ++ news) vs o (bR ++ argR ps ss i) → Kids w.params (tl ++ news) D kvs svs ps ss i →
      Fr h₀ env.locals h (fun y => if y = x then some (.int (i : Int) t) else m₀ y) → News h₀ env.locals h ((K, listOf kvs.toArray nk) :: (RL, listOf vs.toArray n) :: (PD, o) :: (tl ++ (news ++ own))) →
      wpAny (model Challenge.rw_nu0337_01.row.prog w) A (execs body env) (TbPost h₀ env.locals (fun m' nx' => (∀ y, y ≠ x → m' y = m₀ y) ∧ CallJ w news led0 D RL PD K svs ps ss bR (i + 1) nx') own { s with heap := h, toks := tk } Q) E { s with heap := h, toks := tk })
    (done : ∀ (u : Str → Option Value) tl vs n o kvs nk h tk, (∀ q ∈ led0, @LT.lt Nat _ q.1 K) → Abv tl led0 → (∀ p ∈ tl, p.1 ≠ K) → Rows w (tl ++ news) vs o (bR ++ argR ps ss cnt) → Kids w.params (tl ++ news) D kvs svs ps ss cnt →
      Fr h₀ env.locals h (fun y => if y = x then u y else m₀ y) → News h₀ env.locals h ((K, listOf kvs.toArray nk) :: (RL, listOf vs.toArray n) :: (PD, o) :: (tl ++ news)) → Q .next { s with heap := h, toks := tk }) :
    wpAny (model Challenge.rw_nu0337_01.row.prog w) A (pyIter (.ref r)) (fun it s₂ => LoopAtV Challenge.rw_nu0337_01.row.prog w A h₀ env x body Q E it s₂) E s := by
  refine my_range (n := cnt) (CallJ w news led0 D RL PD K svs ps ss bR) hh hr (small_one (by omega) (by omega) (by omega) (by omega)) (by rw [rangeSize_one]; split <;> omega) F N (CallJ.intro a1 a2 (by simpa [argR] using hR) ⟨rfl, rfl, fun i hi => absurd hi (Nat.not_lt_zero _)⟩) ?_ ?_
  · rintro i t nx h tk own hi hoff ⟨tl, vs, n, o, kvs, nk, rfl, b1, b2, b3, b4⟩ F₁ N₁
    rw [show (0 : Int) + (i : Int) = (i : Int) by omega] at F₁
    exact turn i t tl vs n o kvs nk h tk own hi (sep_of_lt fun p hp => a3 p (a4 p hp)) (sep_of_off hoff List.mem_cons_self) hoff b1 b2 b3 b4 F₁ (by simpa only [List.cons_append, List.append_assoc] using N₁)
  · rintro u nx h tk ⟨tl, vs, n, o, kvs, nk, rfl, b1, b2, b3, b4⟩ F₁ N₁
    exact done u tl vs n o kvs nk h tk a3 b1 b2 b3 b4 F₁ N₁
end

theorem turn_facts {P : Params} {news : Led} {pvs svs : List Value} {ps : List ParD} {ss : List SD} (hP : Pars P news pvs ps) (hS : Sides P news svs ss) {i : Nat} (hi : i < min ss.length ps.length) :
    ∃ (p : ParD) (d : SD) (par pt sa : Addr), pvs[((i : Int)).toNat]? = some (Value.ref par) ∧ svs[((i : Int)).toNat]? = some (Value.ref sa) ∧ svs[i]? = some (Value.ref sa) ∧ IsObj P news par (kindS p.ip) (.ref pt) p.ro ∧ IsTy P news pt p.k ∧ IsSide P news sa d (20 + 10 * (i : Int)) ∧
      codeAt ps ss i = passC p.ip p.ro p.k d ∧ letAt ps ss i = letterB p.k d := by
  have hip : i < ps.length := by omega
  have his : i < ss.length := by omega
  obtain ⟨par, pt, hx1, hp1, hp2⟩ := hP.2 i _ (List.getElem?_eq_getElem hip)
  obtain ⟨sa, hx2, hs1⟩ := hS.2 i _ (List.getElem?_eq_getElem his)
  exact ⟨_, _, par, pt, sa, by rw [Int.toNat_natCast]; exact hx1, by rw [Int.toNat_natCast]; exact hx2, hx2, hp1, hp2, hs1, by simp [codeAt, hip, his], by simp [letAt, hip, his]⟩
theorem turn_elim {P : Params} {news : Led} {pvs svs : List Value} {ps : List ParD} {ss : List SD} {C : Prop} (hP : Pars P news pvs ps) (hS : Sides P news svs ss) {i : Nat} (hi : i < min ss.length ps.length)
    (k : ∀ (p : ParD) (d : SD) (par pt sa : Addr), pvs[((i : Int)).toNat]? = some (Value.ref par) → svs[((i : Int)).toNat]? = some (Value.ref sa) → svs[i]? = some (Value.ref sa) → IsObj P news par (kindS p.ip) (.ref pt) p.ro → IsTy P news pt p.k → IsSide P news sa d (20 + 10 * (i : Int)) →
      codeAt ps ss i = passC p.ip p.ro p.k d → letAt ps ss i = letterB p.k d → C) : C := by
  obtain ⟨p1, d1, par, pt, sa, h1, h2, h3, h4, h5, h6, h7, h8⟩ := turn_facts hP hS hi
  exact k p1 d1 par pt sa h1 h2 h3 h4 h5 h6 h7 h8
theorem turn_rows (st nn : Bool) (ps : List ParD) (ss : List SD) {i : Nat} (hi : i < min ss.length ps.length) (h4 : ps.length ≤ 4) : (useR st nn ps.length ss.length ++ argR ps ss i).length < 20 ∧ ∀ r ∈ useR st nn ps.length ss.length ++ argR ps ss i, r.1 ≠ 20 + 10 * (i : Int) := by
  constructor
  · have h1 := useR_len st nn ps.length ss.length
    have h2 := argR_len ps ss i
    rw [List.length_append]
    omega
  · intro r hr
    rcases List.mem_append.mp hr with hr | hr
    · have := useR_lt st nn ps.length ss.length r hr
      omega
    · have := argR_lt ps ss i r hr
      omega
theorem Kids.len {P : Params} {led : Led} {D : Addr} {kvs svs : List Value} {ps : List ParD} {ss : List SD} {cnt : Nat} (h : Kids P led D kvs svs ps ss cnt) : kvs.length = cnt + 1 := h.1
theorem Rows.mono {w : World} {news news' : Led} {vs : List Value} {o : Obj} {rs : List (Int × Str)} (h : Rows w news vs o rs) (hs : ∀ p ∈ news, p ∈ news') : Rows w news' vs o rs := ⟨h.1.mono hs, h.2⟩
theorem word_32 : True := by
  k_with "MySep" => first | assumption | exact List.forall_mem_nil _ | (refine List.forall_mem_cons.mpr ⟨?_, ?_⟩; (focus (k_extra "MyNe")); k_extra "MySep") | (refine List.forall_mem_append.mpr ⟨?_, ?_⟩; (focus (k_extra "MySep")); k_extra "MySep") | exact Abv.ne (by assumption) (by k_extra "MyMem") | exact sep_of_off (by assumption) (by k_extra "MyMem") | (refine sep_of_lt ?_; k_extra "MyLt")
  trivial
theorem argument_turn {w : World} {TO EO RL PD par a t K : Addr} {ko kx x1 x2 : Obj} {vs : List Value} {n : Nat} {o : Obj} {rs : List (Int × Str)} {ip ro : Bool} {k : TK} {sd : SD} {pl : Int} {tl news own : Led}
    {p : Program} {loose : List Str} {mean : ExcName → Option Value} {mg mb : Str → Option Value} {dp un : Nat} {gd : Option (List Code)} {cn : Str} {cs : Scope} {a₁ : Addr} {ccd : Value} {cl : List (Str × Addr)} {outer : List Env} {A₀ : Around} {base h₀ : Heap} {L : Addr} {m : Str → Option Value} {s : Shared} {Q E : Value → Shared → Prop}
    (N : News h₀ L s.heap ((K, ko) :: (RL, listOf vs.toArray n) :: (PD, o) :: (tl ++ (news ++ own))))
    (hT : HasTypes w.params news TO) (hE : IsErr w.params news EO RL PD) (hR : Rows w (tl ++ news) vs o rs) (hz : rs.length < 20) (hl : ∀ r ∈ rs, r.1 ≠ pl)
    (k1 : @Ne Nat K RL) (k2 : @Ne Nat K PD) (a1 : Abv tl ((RL, x1) :: (PD, x2) :: news)) (s1 : ∀ p ∈ news, p.1 ≠ RL) (s2 : ∀ p ∈ news, p.1 ≠ PD) (hoff : TbOff own ((K, kx) :: (RL, listOf vs.toArray n) :: (PD, o) :: (tl ++ news)))
    (hp : IsObj w.params news par (kindS ip) (.ref t) ro) (ht : IsTy w.params news t k) (ha : IsSide w.params news a sd pl)
    (B : Below A₀ base outer h₀) (F : Fr h₀ L s.heap m) (X : (KK w.params).In h₀) (T : Top p loose mean mg mb h₀) (hk : cs.kind = .function) (hd : dp ≤ 860) (hu : un ≤ 8500)
    (ret : ∀ r tl9 vs' n' o' h' tk', Abv tl9 ((RL, listOf vs.toArray n) :: (PD, o) :: (K, ko) :: (tl ++ (news ++ own))) → Rows w ((tl9 ++ tl) ++ news) vs' o' (rs ++ markR pl (passC ip ro k sd)) → Told w.params ((tl9 ++ tl) ++ news) r a pl ((passC ip ro k sd).isOk && letterB k sd) →
      Fr h₀ L h' m → News h₀ L h' ((K, ko) :: (RL, listOf vs'.toArray n') :: (PD, o') :: ((tl9 ++ tl) ++ (news ++ own))) → Q r { s with heap := h', toks := tk' }) :
    wpAny (model Challenge.rw_nu0337_01.row.prog w) (ktrTop dp un gd cn cs L a₁ ccd cl outer) (call (.ref 204) [.ref TO, .ref EO, .ref par, .ref a]) Q E s := by
  have hs : ∀ p ∈ tl ++ news, p ∈ (K, ko) :: (tl ++ (news ++ own)) := fun p hp => .tail _ (by
    rcases List.mem_append.mp hp with h | h
    · exact List.mem_append.mpr (.inl h)
    · exact List.mem_append.mpr (.inr (List.mem_append.mpr (.inl h))))
  have hr : ∀ p ∈ news, p ∈ tl ++ news := fun p hp => List.mem_append.mpr (.inr hp)
  have sep : ∀ (d : Addr) (x : Obj), @Ne Nat K d → (∀ p ∈ news, p.1 ≠ d) → (∀ p ∈ tl, @LT.lt Nat _ d p.1) → (d, x) ∈ ((K, kx) :: (RL, listOf vs.toArray n) :: (PD, o) :: (tl ++ news)) → ∀ p ∈ (K, ko) :: (tl ++ (news ++ own)), p.1 ≠ d := by
    intro d x e1 e2 e3 e4 q hq
    rcases List.mem_cons.mp hq with rfl | hq
    · exact e1
    rcases List.mem_append.mp hq with hq | hq
    · exact Nat.ne_of_gt (e3 q hq)
    rcases List.mem_append.mp hq with hq | hq
    · exact e2 q hq
    · exact hoff q hq _ e4
  refine Spec.use (argument_spec w (tl ++ news) ((K, ko) :: (tl ++ (news ++ own))) TO EO RL PD par a t vs n o rs ip ro k sd pl hs (hT.mono hr) (hE.mono hr) hR hz hl
    (sep RL _ k1 s1 (fun p hp => a1 p hp _ List.mem_cons_self) (.tail _ List.mem_cons_self)) (sep PD _ k2 s2 (fun p hp => a1 p hp _ (.tail _ List.mem_cons_self)) (.tail _ (.tail _ List.mem_cons_self))) (hp.mono hr) (ht.mono hr) (ha.mono hr)) B F X ?_ T hk hd hu ?_
  · exact led_drop N fun p hp => by
      simp only [List.mem_cons, List.mem_append] at hp ⊢
      rcases hp with h | h | h | h <;> simp [h]
  · rintro r nx h' tk' ⟨tl9, vs', n', o', rfl, b1, b2, b3⟩ F' N'
    refine ret r tl9 vs' n' o' h' tk' b1 (by rw [List.append_assoc]; exact b2) (by rw [List.append_assoc]; exact b3) F' (led_drop N' fun p hp => ?_)
    simp only [List.mem_cons, List.mem_append] at hp ⊢
    rcases hp with h | h | h | (h | h) | h | h <;> simp [h]
theorem turn_end {w : World} {x : Str} {h₀ : Heap} {L : Addr} {m₀ m' : Str → Option Value} {h' : Heap} {tk : Nat} {s₁ : Shared} {RL PD K D a : Addr} {kx x1 x2 : Obj} {vs vs' : List Value} {n n' : Nat} {o o' : Obj} {kvs : List Value} {nk' : Nat} {svs : List Value} {ps : List ParD} {ss : List SD} {bR : List (Int × Str)} {i : Nat} {r : Value} {tl tl9 news own : Led}
    (hoff : TbOff own ((K, kx) :: (RL, listOf vs.toArray n) :: (PD, o) :: (tl ++ news))) (a1 : Abv tl ((RL, x1) :: (PD, x2) :: news)) (a2 : ∀ p ∈ tl, p.1 ≠ K) (hK : Kids w.params (tl ++ news) D kvs svs ps ss i)
    (b1 : Abv tl9 ((RL, listOf vs.toArray n) :: (PD, o) :: (K, kx) :: (tl ++ (news ++ own)))) (hR : Rows w ((tl9 ++ tl) ++ news) vs' o' ((bR ++ argR ps ss i) ++ markR (20 + 10 * (i : Int)) (codeAt ps ss i)))
    (ha : svs[i]? = some (Value.ref a)) (hT : Told w.params ((tl9 ++ tl) ++ news) r a (20 + 10 * (i : Int)) ((codeAt ps ss i).isOk && letAt ps ss i))
    (F : Fr h₀ L h' m') (N : News h₀ L h' ((K, listOf (kvs.toArray.push r) nk') :: (RL, listOf vs'.toArray n') :: (PD, o') :: ((tl9 ++ tl) ++ (news ++ own)))) (hm : ∀ y, y ≠ x → m' y = m₀ y) :
    TbEnd h₀ L (fun m' nx' => (∀ y, y ≠ x → m' y = m₀ y) ∧ CallJ w news ((RL, x1) :: (PD, x2) :: news) D RL PD K svs ps ss bR (i + 1) nx') own s₁ { s₁ with heap := h', toks := tk } := by
  have e : kvs.toArray.push r = (kvs ++ [r]).toArray := by simp
  rw [e] at N
  refine ⟨h', tk, m', _, (K, listOf (kvs ++ [r]).toArray nk') :: (RL, listOf vs'.toArray n') :: (PD, o') :: ((tl9 ++ tl) ++ news), rfl, F, N, ?_, ?_, ?_, hm, CallJ.intro ?_ ?_ ?_ ?_⟩
  · intro p hp
    simp only [List.mem_cons, List.mem_append] at hp ⊢
    rcases hp with h | h | h | (h | h) | h <;> simp [h]
  · intro p hp
    simp only [List.mem_cons, List.mem_append]
    simp [hp]
  · intro p hp q hq
    have h1 := fun q hq => hoff p hp q hq
    simp only [List.mem_cons, List.mem_append] at hq h1
    rcases hq with rfl | rfl | rfl | (h | h) | h
    · exact h1 (K, kx) (.inl rfl)
    · exact h1 (RL, listOf vs.toArray n) (.inr (.inl rfl))
    · exact h1 (PD, o) (.inr (.inr (.inl rfl)))
    · exact Nat.ne_of_lt (b1 q h p (by simp [hp]))
    · exact h1 q (.inr (.inr (.inr (.inl h))))
    · exact h1 q (.inr (.inr (.inr (.inr h))))
  · intro p hp q hq
    rcases List.mem_append.mp hp with hp | hp
    · rcases List.mem_cons.mp hq with rfl | hq
      · exact b1 p hp (RL, listOf vs.toArray n) (by simp)
      rcases List.mem_cons.mp hq with rfl | hq
      · exact b1 p hp (PD, o) (by simp)
      · exact b1 p hp q (by simp [hq])
    · exact a1 p hp q hq
  · intro p hp
    rcases List.mem_append.mp hp with hp | hp
    · exact Nat.ne_of_gt (b1 p hp (K, kx) (by simp))
    · exact a2 p hp
  · show Rows w _ vs' o' (bR ++ (argR ps ss i ++ markR (20 + 10 * (i : Int)) (codeAt ps ss i)))
    rw [← List.append_assoc]
    exact hR
  · exact hK.snoc (fun p hp => by simp only [List.mem_append] at hp ⊢; rcases hp with h | h <;> simp [h]) ha hT

theorem done_abv {tl tl9 news : Led} {RL PD K : Addr} {x1 x2 y1 y2 kx : Obj} (b1 : Abv tl ((RL, x1) :: (PD, x2) :: news)) (b9 : Abv tl9 ((K, kx) :: (RL, y1) :: (PD, y2) :: (tl ++ news))) (a3 : ∀ q ∈ (RL, x1) :: (PD, x2) :: news, @LT.lt Nat _ q.1 K) :
    Abv (tl9 ++ (K, kx) :: tl) ((RL, x1) :: (PD, x2) :: news) := fun p hp q hq => by
  rcases List.mem_append.mp hp with hp | hp
  · have h9 := fun q hq => b9 p hp q hq
    rcases List.mem_cons.mp hq with rfl | hq
    · exact h9 (RL, y1) (by simp)
    rcases List.mem_cons.mp hq with rfl | hq
    · exact h9 (PD, y2) (by simp)
    · exact h9 q (by simp [hq])
  · rcases List.mem_cons.mp hp with rfl | hp
    · exact a3 q hq
    · exact b1 p hp q hq
theorem done_led {h₀ h : Heap} {L RL PD K : Addr} {r o kx : Obj} {tl tl9 news : Led} (N : News h₀ L h (tl9 ++ ((K, kx) :: (RL, r) :: (PD, o) :: (tl ++ news)))) : News h₀ L h ((RL, r) :: (PD, o) :: ((tl9 ++ (K, kx) :: tl) ++ news)) :=
  led_drop N fun p hp => by
    simp only [List.mem_cons, List.mem_append] at hp ⊢
    rcases hp with h | h | (h | h | h) | h <;> simp [h]
theorem done_sub {K : Addr} {kx : Obj} {tl tl9 news : Led} : ∀ p ∈ tl ++ news, p ∈ (tl9 ++ (K, kx) :: tl) ++ news := fun p hp => by
  simp only [List.mem_cons, List.mem_append] at hp ⊢
  rcases hp with h | h <;> simp [h]
theorem done_new {K : Addr} {kx : Obj} {tl tl9 news : Led} : ∀ p ∈ tl9, p ∈ (tl9 ++ (K, kx) :: tl) ++ news := fun p hp => by
  simp only [List.mem_cons, List.mem_append]
  simp [hp]
theorem done_mem {K : Addr} {kx : Obj} {tl tl9 news : Led} : (K, kx) ∈ (tl9 ++ (K, kx) :: tl) ++ news := List.mem_append.mpr (.inl (List.mem_append.mpr (.inr (.head _))))

set_option maxRecDepth 100000 in
set_option maxHeartbeats 8000000 in
theorem call_proc_spec (w : World) (news : Led) (TO EO RL PD D T bs PL SL : Addr) (vs : List Value) (n : Nat) (o : Obj) (pvs svs : List Value) (np ns : Nat) (num nb lb : Int) (bb qb dk dv : Value) (t9 : Tok) (nn st : Bool) (ps : List ParD) (ss : List SD)
    (hT : HasTypes w.params news TO) (hE : IsErr w.params news EO RL PD) (hR : Rows w news vs o []) (s1 : ∀ p ∈ news, p.1 ≠ RL) (s2 : ∀ p ∈ news, p.1 ≠ PD)
    (hD : IsNode0 w.params news D "var" 5 (.ref T) dk dv) (hTy : IsTy0 w.params news T num "proc" 0 (.ref bs) (.ref PL)) (hB : IsTy0 w.params news bs nb (bfS nn) lb bb qb)
    (hPL : (PL, listOf pvs.toArray np) ∈ news) (hP : Pars w.params news pvs ps) (hSL : (SL, listOf svs.toArray ns) ∈ news) (hS : Sides w.params news svs ss) (hp4 : ps.length ≤ 4) (hs5 : ss.length ≤ 5) :
    Spec w 218 [.ref TO, .ref EO, .ref D, .ref SL, .int 9 t9, .bool st] 840 8300 ((RL, listOf vs.toArray n) :: (PD, o) :: news)
      (fun r nx => ∃ a tl vs' n' o', r = .ref a ∧ nx = (RL, listOf vs'.toArray n') :: (PD, o') :: (tl ++ news) ∧ Abv tl ((RL, listOf vs.toArray n) :: (PD, o) :: news) ∧
        Rows w (tl ++ news) vs' o' (useR st nn ps.length ss.length ++ argR ps ss (min ss.length ps.length)) ∧
        if st = false ∧ nn = true then ∃ ty kids v, IsNode0 w.params (tl ++ news) a "const" 9 (.ref ty) kids v
        else ∃ KL kvs nk, IsNode0 w.params (tl ++ news) a "call" 9 (if st then .none else .ref bs) (.ref KL) .none ∧ (KL, listOf kvs.toArray nk) ∈ tl ++ news ∧ Kids w.params (tl ++ news) D kvs svs ps ss (min ss.length ps.length)) := by
  w_top off
  unfold Spec
  k_fill
  intro p loose mean mg mb gd cn cs a₀ ccd cl outer A₀ base h₀ L m s Q E B F X N T₀ hk hret
  refine IsNode0.elim hD fun d1 ts1 top1 tp1 hd1 hd2 => ?_
  refine IsTy0.elim hTy fun d ts tn tf tl size fields level module label hidden exno h1 h2 => ?_
  refine IsTy0.elim hB fun d' ts' tn' tf' tl' size' fields' level' module' label' hidden' exno' h1' h2' => ?_
  refine IsErr.elim hE fun ed ets e1 e2 e3 e4 => ?_
  refine HasTypes.elim hT fun TD tts c tc known bo ch bt it ma ni no t1 t2 t3 t4 t5 => ?_
  have hpl := hP.1
  have hsl := hS.1
  have hmin : (if (pvs.length : Int) < (svs.length : Int) then (pvs.length : Int) else (svs.length : Int)) = ((min ss.length ps.length : Nat) : Int) := by split <;> omega
  k_with "pyIter ref" =>
    focus
      (rename IsRange _ _ _ _ _ _ _ _ => hr9)
      (rename News _ _ _ _ => hN9)
      (rename Fr _ _ _ _ => hF9)
      rw [hmin] at hr9
      k_dflt (refine' call_loop (D := D) (RL := RL) (PD := PD) (news := news) (led0 := (RL, listOf vs.toArray n) :: (PD, o) :: news) (svs := svs) (ps := ps) (ss := ss) (bR := useR st nn ps.length ss.length) (by exact rfl) hr9 (by omega) hF9 (by first | exact hN9 | exact led_nil3 hN9) (by k_extra "MyAbv") (by k_extra "MySep") (by k_extra "MyLt") (fun _ h => .tail _ (.tail _ h)) (by
          first
            | (unfold useR; rw [if_pos (by assumption)]; assumption)
            | (unfold useR; rw [if_neg (by rw [‹(useS st nn != _) = false›]; exact Bool.false_ne_true), if_neg (by omega)]; assumption)
            | (unfold useR; rw [if_neg (by rw [‹(useS st nn != _) = false›]; exact Bool.false_ne_true), if_pos (by omega)]; exact hR))
                (fun i t tl vs n o kvs nk h tk own hi hy1 hy2 hoff b1 b2 b3 b4 F' N' => ?_) (fun u tl vs n o kvs nk h tk b0 b1 b2 b3 b4 F' N' => ?_))
      rotate_left
      all_goals (try dsimp only)
      rotate_left
      refine turn_elim hP hS hi fun p1 d1' par pt sa hx1 hx2 hx3 hp1 hp2 hs1 hc1 hc2 => ?_
      obtain ⟨hx5, hx6⟩ := turn_rows st nn ps ss hi hp4
      have hx9 := Kids.len b4
  k_with "call ref" =>
    (with_reducible show wpAny _ _ (call (Value.ref 204) _) _ _ _)
    focus
      k_dflt (refine' argument_turn (by k_asm) hT hE (by assumption) (by assumption) (by assumption) (by k_extra "MyNe") (by k_extra "MyNe") (by assumption) s1 s2 (by assumption) (by assumption) (by assumption) (by assumption) (by k_asm) (by k_asm) (by k_asm) (by k_asm) (by first | exact rfl | assumption) (Nat.le_of_ble_eq_true rfl) (Nat.le_of_ble_eq_true rfl) (fun r tl9 vs' n' o' h' tk' c1 c2 c3 F' N' => ?_))
      (try k_sweep); (try dsimp only); (try k_fold)
  k_extra "MyStp"
  all_goals (try dsimp only)
  all_goals first
    | (rw [← hc1] at c2 c3; rw [← hc2] at c3
       exact turn_end hoff b1 b2 b4 c1 c2 hx3 c3 (by k_asm) (by k_asm) (fun y hy => if_neg hy))
    | (refine hret _ _ _ _ ⟨_, _, _, _, _, rfl, rfl, done_abv b1 (by assumption) b0, b3.mono done_sub, ?_⟩ (by k_asm) (done_led (by assumption))
       first
         | (rw [if_neg (by rintro ⟨e1, e2⟩; simp_all [bfS])]
            exact ⟨_, _, _, IsNode0.mono (by first | assumption | (simp only [‹st = _›, if_true, if_false, Bool.false_eq_true]; assumption)) done_new, done_mem, b4.mono done_sub⟩)
         | (rw [if_pos (by refine ⟨by assumption, ?_⟩; cases nn; (revert ‹(bfS _ == _) = true›; decide); rfl)]
            exact ⟨_, _, _, IsNode0.mono (by assumption) done_new⟩))

theorem call_proc_cps {w : World} {news : Led} {RL PD D bs : Addr} {vs : List Value} {n : Nat} {o : Obj} {svs : List Value} {nn st : Bool} {ps : List ParD} {ss : List SD} (C : Value → Led → Prop) (h9 : ∀ a tl vs' n' o', (Abv tl ((RL, listOf vs.toArray n) :: (PD, o) :: news)) → (Rows w (tl ++ news) vs' o' (useR st nn ps.length ss.length ++ argR ps ss (min ss.length ps.length))) → (if st = false ∧ nn = true then ∃ ty kids v, IsNode0 w.params (tl ++ news) a "const" 9 (.ref ty) kids v else ∃ KL kvs nk, IsNode0 w.params (tl ++ news) a "call" 9 (if st then .none else .ref bs) (.ref KL) .none ∧ (KL, listOf kvs.toArray nk) ∈ tl ++ news ∧ Kids w.params (tl ++ news) D kvs svs ps ss (min ss.length ps.length)) → C (.ref a) ((RL, listOf vs'.toArray n') :: (PD, o') :: (tl ++ news))) : ∀ r nx, (∃ a tl vs' n' o', r = .ref a ∧ nx = (RL, listOf vs'.toArray n') :: (PD, o') :: (tl ++ news) ∧ Abv tl ((RL, listOf vs.toArray n) :: (PD, o) :: news) ∧ Rows w (tl ++ news) vs' o' (useR st nn ps.length ss.length ++ argR ps ss (min ss.length ps.length)) ∧ if st = false ∧ nn = true then ∃ ty kids v, IsNode0 w.params (tl ++ news) a "const" 9 (.ref ty) kids v else ∃ KL kvs nk, IsNode0 w.params (tl ++ news) a "call" 9 (if st then .none else .ref bs) (.ref KL) .none ∧ (KL, listOf kvs.toArray nk) ∈ tl ++ news ∧ Kids w.params (tl ++ news) D kvs svs ps ss (min ss.length ps.length)) → C r nx := by
  rintro r nx ⟨y1, y2, y3, y4, y5, ⟨rfl, rfl, y6, y7, y8⟩⟩
  exact h9 y1 y2 y3 y4 y5 y6 y7 y8


theorem tick_asg {prog : Program} {w : World} {A : Around} {env : Env} {E : Value → Shared → Prop} {s : Shared} {Q : Flow → Shared → Prop} (h : wpAny (model prog w) A (execs [] env) Q E s) : wpAny (model prog w) A (execs [] env) Q E s := by
  first | (walk1; fail) | exact h

def npS (st : Bool) : Str := if st then "block" else "const"
theorem led_canon {h₀ h : Heap} {L RL PD : Addr} {r o : Obj} {tl tl9 news : Led} (N : News h₀ L h (tl9 ++ ((RL, r) :: (PD, o) :: (tl ++ news)))) : News h₀ L h ((RL, r) :: (PD, o) :: ((tl9 ++ tl) ++ news)) :=
  led_drop N fun p hp => by
    simp only [List.mem_cons, List.mem_append] at hp ⊢
    rcases hp with h | h | (h | h) | h <;> simp [h]
theorem abv_canon {tl tl9 news : Led} {RL PD : Addr} {x1 x2 y1 y2 : Obj} (b1 : Abv tl ((RL, x1) :: (PD, x2) :: news)) (b9 : Abv tl9 ((RL, y1) :: (PD, y2) :: (tl ++ news))) :
    Abv (tl9 ++ tl) ((RL, x1) :: (PD, x2) :: news) := fun p hp q hq => by
  rcases List.mem_append.mp hp with hp | hp
  · have h9 := fun q hq => b9 p hp q hq
    rcases List.mem_cons.mp hq with rfl | hq
    · exact h9 (RL, y1) (by simp)
    rcases List.mem_cons.mp hq with rfl | hq
    · exact h9 (PD, y2) (by simp)
    · exact h9 q (by simp [hq])
  · exact b1 p hp q hq
theorem sub_canon {tl tl9 news : Led} : ∀ p ∈ tl ++ news, p ∈ (tl9 ++ tl) ++ news := fun p hp => by
  simp only [List.mem_append] at hp ⊢
  rcases hp with h | h <;> simp [h]
theorem new_canon {tl tl9 news : Led} : ∀ p ∈ tl9, p ∈ (tl9 ++ tl) ++ news := fun p hp => by
  simp only [List.mem_append]
  simp [hp]

set_option maxRecDepth 100000 in
set_option maxHeartbeats 8000000 in
theorem call_np_spec (w : World) (news : Led) (TO EO RL PD D T : Addr) (vs : List Value) (n : Nat) (o : Obj) (av dk dv : Value) (t9 : Tok) (st : Bool)
    (hT : HasTypes w.params news TO) (hE : IsErr w.params news EO RL PD) (hR : Rows w news vs o []) (s1 : ∀ p ∈ news, p.1 ≠ RL) (s2 : ∀ p ∈ news, p.1 ≠ PD)
    (hD : IsNode0 w.params news D "var" 5 (.ref T) dk dv) (hTy : IsTy w.params news T .int) :
    Spec w 218 [.ref TO, .ref EO, .ref D, av, .int 9 t9, .bool st] 840 8300 ((RL, listOf vs.toArray n) :: (PD, o) :: news)
      (fun r nx => ∃ a tl vs' n' o', r = .ref a ∧ nx = (RL, listOf vs'.toArray n') :: (PD, o') :: (tl ++ news) ∧ Abv tl ((RL, listOf vs.toArray n) :: (PD, o) :: news) ∧
        Rows w (tl ++ news) vs' o' [(5, "not_a_procedure")] ∧ ∃ ty kids v, IsNode0 w.params (tl ++ news) a (npS st) 9 ty kids v) := by
  w_top off
  unfold Spec
  k_fill
  intro p loose mean mg mb gd cn cs a₀ ccd cl outer A₀ base h₀ L m s Q E B F X N T₀ hk hret
  refine IsNode0.elim hD fun d1 ts1 top1 tp1 hd1 hd2 => ?_
  refine IsTy.elim hTy fun _ _ d ts tn tf tl size fields level module label hidden exno h1 h2 _ => ?_
  refine IsErr.elim hE fun ed ets e1 e2 e3 e4 => ?_
  refine HasTypes.elim hT fun TD tts c tc known bo ch bt it ma ni no t1 t2 t3 t4 t5 => ?_
  have f1 : (TK.int.form != "proc") = true := by simp [bne, TK.not_proc]
  k_extra "MyStp"
  all_goals (try dsimp only)
  · refine hret _ _ _ _ ⟨_, _, _, _, _, rfl, rfl, done_abv (by assumption) (by assumption) (by k_extra "MyLt"), Rows.mono (by assumption) done_sub, _, _, _, IsNode0.mono (by simp only [npS, ‹st = true›, if_true]; assumption) done_new⟩ (by k_asm) (done_led (by assumption))
  · refine hret _ _ _ _ ⟨_, _, _, _, _, rfl, rfl, abv_canon (by assumption) (by assumption), Rows.mono (by assumption) sub_canon, _, _, _, IsNode0.mono (by simp only [npS, ‹st = false›, Bool.false_eq_true, if_false]; assumption) new_canon⟩ (by k_asm) (led_canon (by assumption))

theorem call_np_cps {w : World} {news : Led} {RL PD : Addr} {vs : List Value} {n : Nat} {o : Obj} {st : Bool} (C : Value → Led → Prop) (h9 : ∀ a tl vs' n' o', (Abv tl ((RL, listOf vs.toArray n) :: (PD, o) :: news)) → (Rows w (tl ++ news) vs' o' [(5, "not_a_procedure")]) → ∀ ty kids v, (IsNode0 w.params (tl ++ news) a (npS st) 9 ty kids v) → C (.ref a) ((RL, listOf vs'.toArray n') :: (PD, o') :: (tl ++ news))) : ∀ r nx, (∃ a tl vs' n' o', r = .ref a ∧ nx = (RL, listOf vs'.toArray n') :: (PD, o') :: (tl ++ news) ∧ Abv tl ((RL, listOf vs.toArray n) :: (PD, o) :: news) ∧ Rows w (tl ++ news) vs' o' [(5, "not_a_procedure")] ∧ ∃ ty kids v, IsNode0 w.params (tl ++ news) a (npS st) 9 ty kids v) → C r nx := by
  rintro r nx ⟨y1, y2, y3, y4, y5, ⟨rfl, rfl, y6, y7, ⟨y8, y9, y10, y11⟩⟩⟩
  exact h9 y1 y2 y3 y4 y5 y6 y7 y8 y9 y10 y11

theorem asg_end {w : World} {h₀ h : Heap} {L : Addr} {RL PD K a r : Addr} {x1 x2 kx : Obj} {vs : List Value} {n : Nat} {o y1 y2 : Obj} {rs : List (Int × Str)} {x : Value} {rpl pl : Int} {lt : Bool} {tl1 tl8 tl9 news : Led}
    (N : News h₀ L h (tl9 ++ ((K, kx) :: (tl8 ++ ((RL, listOf vs.toArray n) :: (PD, o) :: (tl1 ++ news)))))) (b1 : Abv tl1 ((RL, x1) :: (PD, x2) :: news)) (b8 : Abv tl8 ((RL, y1) :: (PD, y2) :: (tl1 ++ news)))
    (b9 : Abv tl9 ((K, kx) :: (tl8 ++ ((RL, listOf vs.toArray n) :: (PD, o) :: (tl1 ++ news))))) (l : ∀ p ∈ tl8 ++ ((RL, listOf vs.toArray n) :: (PD, o) :: (tl1 ++ news)), @LT.lt Nat _ p.1 K)
    (hR : Rows w (tl1 ++ news) vs o rs) (hN : IsNode0 w.params tl9 a "assign" pl .none (.ref K) .none) (hT : Told w.params (tl8 ++ news) x r rpl lt) :
    ∃ tl, News h₀ L h ((RL, listOf vs.toArray n) :: (PD, o) :: (tl ++ news)) ∧ Abv tl ((RL, x1) :: (PD, x2) :: news) ∧ Rows w (tl ++ news) vs o rs ∧ IsNode0 w.params (tl ++ news) a "assign" pl .none (.ref K) .none ∧ (K, kx) ∈ tl ++ news ∧ Told w.params (tl ++ news) x r rpl lt := by
  refine ⟨tl9 ++ ((K, kx) :: (tl8 ++ tl1)), led_drop N ?_, ?_, hR.mono ?_, hN.mono ?_, ?_, hT.mono ?_⟩
  · intro p hp
    simp only [List.mem_cons, List.mem_append] at hp ⊢
    rcases hp with h | h | (h | h | h | h) | h <;> simp [h]
  · intro p hp q hq
    have c1 : ∀ p ∈ tl8 ++ tl1, @LT.lt Nat _ q.1 p.1 := fun p hp => by
      rcases List.mem_append.mp hp with hp | hp
      · rcases List.mem_cons.mp hq with rfl | hq
        · exact b8 p hp (RL, y1) (by simp)
        rcases List.mem_cons.mp hq with rfl | hq
        · exact b8 p hp (PD, y2) (by simp)
        · exact b8 p hp q (by simp [hq])
      · exact b1 p hp q hq
    have c2 : ∃ z, (q.1, z) ∈ tl8 ++ ((RL, listOf vs.toArray n) :: (PD, o) :: (tl1 ++ news)) := by
      rcases List.mem_cons.mp hq with rfl | hq
      · exact ⟨_, by simp; exact .inr (.inl rfl)⟩
      rcases List.mem_cons.mp hq with rfl | hq
      · exact ⟨o, by simp⟩
      · exact ⟨q.2, by simp [hq]⟩
    obtain ⟨z, c2⟩ := c2
    rcases List.mem_append.mp hp with hp | hp
    · exact b9 p hp (q.1, z) (.tail _ c2)
    rcases List.mem_cons.mp hp with rfl | hp
    · exact l (q.1, z) c2
    · exact c1 p hp
  · intro p hp; simp only [List.mem_cons, List.mem_append] at hp ⊢; rcases hp with h | h <;> simp [h]
  · intro p hp; simp only [List.mem_append]; simp [hp]
  · simp
  · intro p hp; simp only [List.mem_cons, List.mem_append] at hp ⊢; rcases hp with h | h <;> simp [h]

def asgR (l r : SD) (lpl pl : Int) : List (Int × Str) := if l.isVar = false then [(lpl, "not_a_variable")] else if l.ro = true then [(lpl, "read_only")] else markR pl (asgC l.k r.k)

set_option maxRecDepth 100000 in
set_option maxHeartbeats 8000000 in
theorem assignment_spec (w : World) (news : Led) (TO EO RL PD l r : Addr) (vs : List Value) (n : Nat) (o : Obj) (sl sr : SD) (lpl rpl pl : Int) (tp : Tok)
    (hT : HasTypes w.params news TO) (hE : IsErr w.params news EO RL PD) (hR : Rows w news vs o []) (s1 : ∀ p ∈ news, p.1 ≠ RL) (s2 : ∀ p ∈ news, p.1 ≠ PD)
    (hl : IsSide w.params news l sl lpl) (hr : IsSide w.params news r sr rpl) :
    Spec w 190 [.ref TO, .ref EO, .ref l, .ref r, .int pl tp] 860 8500 ((RL, listOf vs.toArray n) :: (PD, o) :: news)
      (fun v nx => ∃ a tl vs' n' o' KL x nk, v = .ref a ∧ nx = (RL, listOf vs'.toArray n') :: (PD, o') :: (tl ++ news) ∧ Abv tl ((RL, listOf vs.toArray n) :: (PD, o) :: news) ∧
        Rows w (tl ++ news) vs' o' (asgR sl sr lpl pl) ∧ IsNode0 w.params (tl ++ news) a "assign" pl .none (.ref KL) .none ∧ (KL, listOf [.ref l, x].toArray nk) ∈ tl ++ news ∧ Told w.params (tl ++ news) x r rpl (letterB sl.k sr)) := by
  unfold Spec
  intro p loose mean mg mb gd cn cs a₀ ccd cl outer A₀ base h₀ L m s Q E B F X N T₀ hk hret
  refine IsSide.elim hl fun ty kids value d ts top tpl h1 h2 hty hv => ?_
  refine IsSide.elim hr fun rty rkids rvalue rd rts rtop rtpl r1 r2 hrty hrv => ?_
  refine IsErr.elim hE fun ed ets e1 e2 e3 e4 => ?_
  cases f1 : sl.isVar
  · k_extra "MyStp"
    all_goals (try dsimp only)
    obtain ⟨tlx, q1, q2, q3, q4, q5, q6⟩ := asg_end (kx := listOf [_, _].toArray _) ‹News h₀ L _ _› (by assumption) (by assumption) (by assumption) (by assumption) (by assumption) (by assumption) (by assumption)
    exact hret _ _ _ _ ⟨_, tlx, _, _, _, _, _, _, rfl, rfl, q2, by simp only [asgR, f1, if_true]; exact q3, q4, q5, q6⟩ (by k_asm) q1
  cases f2 : sl.ro
  · k_extra "MyStp"
    all_goals (try dsimp only)
    all_goals have e9 := CK.ne_ok (asgC sl.k sr.k)
    · obtain ⟨tlx, q1, q2, q3, q4, q5, q6⟩ := asg_end (kx := listOf [_, _].toArray _) ‹News h₀ L _ _› (by assumption) (by assumption) (by assumption) (by assumption) (by assumption) (by assumption) (by assumption)
      rw [‹((asgC sl.k sr.k).str != _) = true›] at e9
      have e8 : (asgC sl.k sr.k).isOk = false := by simpa using e9.symm
      exact hret _ _ _ _ ⟨_, tlx, _, _, _, _, _, _, rfl, rfl, q2, by simp only [asgR, f1, f2, markR, e8, Bool.false_eq_true, if_false, Bool.true_eq_false]; exact q3, q4, q5, q6⟩ (by k_asm) q1
    · obtain ⟨tlx, q1, q2, q3, q4, q5, q6⟩ := asg_end (tl1 := []) (kx := listOf [_, _].toArray _) ‹News h₀ L _ _› Abv.nil (by assumption) (by assumption) (by assumption) (by exact hR) (by assumption) (by assumption)
      rw [‹((asgC sl.k sr.k).str != _) = false›] at e9
      have e8 : (asgC sl.k sr.k).isOk = true := by simpa using e9.symm
      exact hret _ _ _ _ ⟨_, tlx, _, _, _, _, _, _, rfl, rfl, q2, by simp only [asgR, f1, f2, markR, e8, Bool.false_eq_true, if_false, Bool.true_eq_false, if_true]; exact q3, q4, q5, q6⟩ (by k_asm) q1
  · k_extra "MyStp"
    all_goals (try dsimp only)
    obtain ⟨tlx, q1, q2, q3, q4, q5, q6⟩ := asg_end (kx := listOf [_, _].toArray _) ‹News h₀ L _ _› (by assumption) (by assumption) (by assumption) (by assumption) (by assumption) (by assumption) (by assumption)
    exact hret _ _ _ _ ⟨_, tlx, _, _, _, _, _, _, rfl, rfl, q2, by simp only [asgR, f1, f2, if_true, Bool.true_eq_false, if_false]; exact q3, q4, q5, q6⟩ (by k_asm) q1

theorem assignment_cps {w : World} {news : Led} {RL PD l r : Addr} {vs : List Value} {n : Nat} {o : Obj} {sl sr : SD} {lpl rpl pl : Int} (C : Value → Led → Prop) (h9 : ∀ a tl vs' n' o' KL x nk, (Abv tl ((RL, listOf vs.toArray n) :: (PD, o) :: news)) → (Rows w (tl ++ news) vs' o' (asgR sl sr lpl pl)) → (IsNode0 w.params (tl ++ news) a "assign" pl .none (.ref KL) .none) → ((KL, listOf [.ref l, x].toArray nk) ∈ tl ++ news) → (Told w.params (tl ++ news) x r rpl (letterB sl.k sr)) → C (.ref a) ((RL, listOf vs'.toArray n') :: (PD, o') :: (tl ++ news))) : ∀ v nx, (∃ a tl vs' n' o' KL x nk, v = .ref a ∧ nx = (RL, listOf vs'.toArray n') :: (PD, o') :: (tl ++ news) ∧ Abv tl ((RL, listOf vs.toArray n) :: (PD, o) :: news) ∧ Rows w (tl ++ news) vs' o' (asgR sl sr lpl pl) ∧ IsNode0 w.params (tl ++ news) a "assign" pl .none (.ref KL) .none ∧ (KL, listOf [.ref l, x].toArray nk) ∈ tl ++ news ∧ Told w.params (tl ++ news) x r rpl (letterB sl.k sr)) → C v nx := by
  rintro v nx ⟨y1, y2, y3, y4, y5, y6, y7, y8, ⟨rfl, rfl, y9, y10, y11, y12, y13⟩⟩
  exact h9 y1 y2 y3 y4 y5 y6 y7 y8 y9 y10 y11 y12 y13

def condR (d : SD) (pl : Int) : List (Int × Str) := if (d.k.form == "boolean") = true then [] else [(pl, "not_boolean")]

set_option maxRecDepth 100000 in
set_option maxHeartbeats 8000000 in
theorem condition_spec (w : World) (news : Led) (TO EO RL PD a : Addr) (vs : List Value) (n : Nat) (o : Obj) (sd : SD) (pl : Int)
    (hT : HasTypes w.params news TO) (hE : IsErr w.params news EO RL PD) (hR : Rows w news vs o []) (s1 : ∀ p ∈ news, p.1 ≠ RL) (s2 : ∀ p ∈ news, p.1 ≠ PD)
    (ha : IsSide w.params news a sd pl) :
    Spec w 197 [.ref TO, .ref EO, .ref a] 860 8500 ((RL, listOf vs.toArray n) :: (PD, o) :: news)
      (fun v nx => ∃ b tl vs' n' o', v = .ref b ∧ nx = (RL, listOf vs'.toArray n') :: (PD, o') :: (tl ++ news) ∧ Rows w (tl ++ news) vs' o' (condR sd pl) ∧
        if (sd.k.form == "boolean") = true then b = a else ∃ bo kids x, IsNode0 w.params (tl ++ news) b "const" pl (.ref bo) kids x ∧ IsTy w.params (tl ++ news) bo .boo) := by
  unfold Spec
  intro p loose mean mg mb gd cn cs a₀ ccd cl outer A₀ base h₀ L m s Q E B F X N T₀ hk hret
  refine IsSide.elim ha fun ty kids value d ts top tpl h1 h2 hty hv => ?_
  refine IsTy.elim hty fun _ _ d' ts' tn' tf' tl' size' fields' level' module' label' hidden' exno' h1' h2' _ => ?_
  refine IsErr.elim hE fun ed ets e1 e2 e3 e4 => ?_
  refine HasTypes.elim hT fun TD tts c tc known bo ch bt it ma ni no t1 t2 t3 t4 t5 => ?_
  k_extra "MyStp"
  all_goals (try dsimp only)
  · exact hret _ _ _ _ ⟨a, [], vs, n, o, rfl, rfl, by simp only [condR, ‹(sd.k.form == _) = true›, if_true]; exact hR, by rw [if_pos ‹(sd.k.form == _) = true›]⟩ (by k_asm) (by k_asm)
  · have q := led_canon ‹News h₀ L _ _›
    refine hret _ _ _ _ ⟨_, _, _, _, _, rfl, rfl, ?_, ?_⟩ (by k_asm) q
    · simp only [condR, ‹(sd.k.form == _) = false›, Bool.false_eq_true, if_false]; exact Rows.mono (by assumption) sub_canon
    · rw [if_neg (by rw [‹(sd.k.form == _) = false›]; exact Bool.false_ne_true)]
      exact ⟨bo, _, _, IsNode0.mono (by assumption) new_canon, t5.mono fun p hp => List.mem_append.mpr (.inr hp)⟩

theorem condition_cps {w : World} {news : Led} {RL PD a : Addr} {sd : SD} {pl : Int} (C : Value → Led → Prop) (h9 : ∀ b tl vs' n' o', (Rows w (tl ++ news) vs' o' (condR sd pl)) → (if (sd.k.form == "boolean") = true then b = a else ∃ bo kids x, IsNode0 w.params (tl ++ news) b "const" pl (.ref bo) kids x ∧ IsTy w.params (tl ++ news) bo .boo) → C (.ref b) ((RL, listOf vs'.toArray n') :: (PD, o') :: (tl ++ news))) : ∀ v nx, (∃ b tl vs' n' o', v = .ref b ∧ nx = (RL, listOf vs'.toArray n') :: (PD, o') :: (tl ++ news) ∧ Rows w (tl ++ news) vs' o' (condR sd pl) ∧ if (sd.k.form == "boolean") = true then b = a else ∃ bo kids x, IsNode0 w.params (tl ++ news) b "const" pl (.ref bo) kids x ∧ IsTy w.params (tl ++ news) bo .boo) → C v nx := by
  rintro v nx ⟨y1, y2, y3, y4, y5, ⟨rfl, rfl, y6, y7⟩⟩
  exact h9 y1 y2 y3 y4 y5 y6 y7


theorem tick_pick {prog : Program} {w : World} {A : Around} {env : Env} {E : Value → Shared → Prop} {s : Shared} {Q : Flow → Shared → Prop} (h : wpAny (model prog w) A (execs [] env) Q E s) : wpAny (model prog w) A (execs [] env) Q E s := by
  first | (walk1; fail) | exact h

/-- the law's pool: its figures at FL, a place, a number -/
def Pool (FL : Addr) (o : Obj) : Prop := ∃ (i : Int) (ti : Tok) (mix : Int) (tm : Tok) (k : Nat), o = listOf [.ref FL, .int i ti, .int mix tm].toArray k ∧ 0 ≤ i ∧ i ≤ 600 ∧ 0 ≤ mix ∧ mix < 1009
def Figs (news : Led) (FL : Addr) : Prop := ∃ (fvs : List Value) (nf : Nat) (figs : List Int), (FL, listOf fvs.toArray nf) ∈ news ∧ IntsAre fvs figs ∧ figs.length ≤ 600 ∧ ∀ x ∈ figs, 0 ≤ x ∧ x < 840
theorem Figs.mono {news news' : Led} {FL : Addr} (h : Figs news FL) (hs : ∀ p ∈ news, p ∈ news') : Figs news' FL := by
  obtain ⟨a, b, c, h1, h2⟩ := h
  exact ⟨a, b, c, hs _ h1, h2⟩

set_option maxRecDepth 100000 in
set_option maxHeartbeats 8000000 in
theorem pick_spec (w : World) (news : Led) (P FL : Addr) (o : Obj) (n : Int) (tn : Tok) (hP : Pool FL o) (hF : Figs news FL) (s1 : ∀ p ∈ news, p.1 ≠ P) (n1 : 1 ≤ n) (n2 : n ≤ 1000) :
    Spec w 352 [.ref P, .int n tn] 940 9300 ((P, o) :: news) (fun r nx => ∃ v t o', r = .int v t ∧ 0 ≤ v ∧ v < n ∧ nx = (P, o') :: news ∧ Pool FL o') := by
  w_top off
  unfold Spec
  k_fill
  intro p loose mean mg mb gd cn cs a₀ ccd cl outer A₀ base h₀ L m s Q E B F X N T₀ hk hret
  obtain ⟨i, ti, mix, tm, k, rfl, i1, i2, m1, m2⟩ := hP
  obtain ⟨fvs, nf, figs, f1, f2, f3, f4⟩ := hF
  have f5 := f2.length
  by_cases c1 : i < (fvs.length : Int)
  · obtain ⟨f, hf⟩ : ∃ f, figs[i.toNat]? = some f := ⟨figs[i.toNat]'(by omega), List.getElem?_eq_getElem _⟩
    obtain ⟨t, hx⟩ := f2.get i.toNat f hf
    have f6 := f4 f (List.mem_of_getElem? hf)
    have g1 := f6.1
    have g2 := f6.2
    k_extra "MyStp"
    all_goals (try dsimp only)
    refine hret _ _ _ _ ⟨_, _, _, rfl, Int.fmod_nonneg_of_pos _ (by omega), Int.fmod_lt_of_pos _ (by omega), rfl, _, _, _, _, _, rfl, ?_, ?_, m1, m2⟩ (by k_asm) (by k_asm) <;> omega
  · k_extra "MyStp"
    all_goals (try dsimp only)
    · exact hret _ _ _ _ ⟨_, _, _, rfl, Int.fmod_nonneg_of_pos _ (by omega), Int.fmod_lt_of_pos _ (by omega), rfl, _, _, _, _, _, rfl, i1, i2, m1, m2⟩ (by k_asm) (by k_asm)
    · exact hret _ _ _ _ ⟨_, _, _, rfl, Int.fmod_nonneg_of_pos _ (by omega), Int.fmod_lt_of_pos _ (by omega), rfl, _, _, _, _, _, rfl, i1, i2, Int.fmod_nonneg_of_pos _ (by omega), Int.fmod_lt_of_pos _ (by omega)⟩ (by k_asm) (by k_asm)

theorem pick_cps {news : Led} {P FL : Addr} {n : Int} (C : Value → Led → Prop) (h9 : ∀ v t o', (0 ≤ v) → (v < n) → (Pool FL o') → C (.int v t) ((P, o') :: news)) : ∀ r nx, (∃ v t o', r = .int v t ∧ 0 ≤ v ∧ v < n ∧ nx = (P, o') :: news ∧ Pool FL o') → C r nx := by
  rintro r nx ⟨y1, y2, y3, ⟨rfl, y4, y5, rfl, y6⟩⟩
  exact h9 y1 y2 y3 y4 y5 y6


theorem tick_pool {prog : Program} {w : World} {A : Around} {env : Env} {E : Value → Shared → Prop} {s : Shared} {Q : Flow → Shared → Prop} (h : wpAny (model prog w) A (execs [] env) Q E s) : wpAny (model prog w) A (execs [] env) Q E s := by
  first | (walk1; fail) | exact h

section
variable {prog : Program} {w : World} {A : Around} {E : Value → Shared → Prop} {s : Shared} {env : Env} {h₀ : Heap} {x : Str} {body : List Stmt} {Q : Flow → Shared → Prop}
theorem map_some {x y : Str} {stored : List Str} {m₁ m₀ : Str → Option Value} {v : Option Value} {u : Value} (ha : m₁ y = some u) (hm : ∀ z, z ≠ x → z ≠ y → stored.contains z = false → m₁ z = m₀ z) :
    (fun z => if z = x then v else m₁ z) = fun z => if z = x then v else if z = y then some u else if stored.contains z then m₁ z else m₀ z := by
  funext z
  by_cases h1 : z = x
  · simp [h1]
  · simp only [if_neg h1]
    by_cases h2 : z = y
    · subst h2; simp [ha]
    · simp only [if_neg h2]
      cases h3 : stored.contains z with
      | true => simp
      | false => simp only [Bool.false_eq_true, if_false]; exact hm z h1 h2 h3
theorem map_self {x y : Str} {stored : List Str} {m₁ m₀ : Str → Option Value} {u : Value} (ha : m₁ y = some u) (hm : ∀ z, z ≠ x → z ≠ y → stored.contains z = false → m₁ z = m₀ z) :
    m₁ = fun z => if z = x then m₁ z else if z = y then some u else if stored.contains z then m₁ z else m₀ z := by
  funext z
  by_cases h1 : z = x
  · simp [h1]
  · simp only [if_neg h1]
    by_cases h2 : z = y
    · subst h2; simp [ha]
    · simp only [if_neg h2]
      cases h3 : stored.contains z with
      | true => simp
      | false => simp only [Bool.false_eq_true, if_false]; exact hm z h1 h2 h3
/-- a list of figures -/
def FigsAre (fvs : List Value) (n : Nat) : Prop := ∃ figs : List Int, IntsAre fvs figs ∧ figs.length ≤ n ∧ ∀ x ∈ figs, 0 ≤ x ∧ x < 840
theorem FigsAre.len {fvs : List Value} {n : Nat} (h : FigsAre fvs n) : fvs.length ≤ n := by
  obtain ⟨figs, h1, h2, _⟩ := h
  rw [h1.length]; exact h2
theorem FigsAre.snoc {fvs : List Value} {n : Nat} (h : FigsAre fvs n) {i : Int} {t : Tok} (h1 : 0 ≤ i) (h2 : i < 840) : FigsAre (fvs ++ [.int i t]) (n + 1) := by
  obtain ⟨figs, a, b, c⟩ := h
  refine ⟨figs ++ [i], a.append (IntsAre.cons i t .nil), by simp only [List.length_append, List.length_cons, List.length_nil]; omega, fun x hx => ?_⟩
  rcases List.mem_append.mp hx with hx | hx
  · exact c x hx
  · rw [List.mem_singleton.mp hx]; exact ⟨h1, h2⟩
theorem FigsAre.le {fvs : List Value} {n k : Nat} (h : FigsAre fvs n) (hk : fvs.length ≤ k) : FigsAre fvs k := by
  obtain ⟨figs, a, b, c⟩ := h
  exact ⟨figs, a, by rw [← a.length]; exact hk, c⟩

theorem pool_inner {r : Addr} {t₀ u₀ v₀ : Tok} {m₀ : Str → Option Value} {FL : Addr} {rest : Led} {fvs₀ : List Value} {nf₀ : Nat} {r₀ : Int} {tr₀ : Tok}
    (hr : IsRange s.heap r 0 60 1 t₀ u₀ v₀) (hf : FigsAre fvs₀ 400) (hm : m₀ (Str.ofString "rest") = some (.int r₀ tr₀)) (F : Fr h₀ env.locals s.heap m₀) (N : News h₀ env.locals s.heap ((FL, listOf fvs₀.toArray nf₀) :: rest))
    (hh : A.handled = none) (h0 : 0 ≤ r₀)
    (turn : ∀ (i : Int) t fvs nf k (q : Int) tq (u : Str → Option Value) h tk own, k < 60 → TbOff own ((FL, listOf fvs.toArray nf) :: rest) → FigsAre fvs (400 + k) → 0 ≤ q →
      Fr h₀ env.locals h (fun y => if y = Str.ofString "step" then some (.int i t) else if y = Str.ofString "rest" then some (.int q tq) else if ([] : List Str).contains y then u y else m₀ y) → News h₀ env.locals h ((FL, listOf fvs.toArray nf) :: (rest ++ own)) →
      wpAny (model prog w) A (execs body env) (TbPost h₀ env.locals (fun m' nx => (∃ fvs' nf' q' tq', nx = (FL, listOf fvs'.toArray nf') :: rest ∧ FigsAre fvs' (400 + k + 1) ∧ m' (Str.ofString "rest") = some (.int q' tq') ∧ 0 ≤ q') ∧ ∀ y, y ≠ Str.ofString "step" → y ≠ Str.ofString "rest" → ([] : List Str).contains y = false → m' y = m₀ y) own { s with heap := h, toks := tk } Q) E { s with heap := h, toks := tk })
    (done : ∀ fvs nf (q : Int) tq (u : Str → Option Value) h tk, FigsAre fvs 460 → 0 ≤ q →
      Fr h₀ env.locals h (fun y => if y = Str.ofString "step" then u y else if y = Str.ofString "rest" then some (.int q tq) else if ([] : List Str).contains y then u y else m₀ y) → News h₀ env.locals h ((FL, listOf fvs.toArray nf) :: rest) → Q .next { s with heap := h, toks := tk }) (hx : x = Str.ofString "step") :
    wpAny (model prog w) A (pyIter (.ref r)) (fun it s₂ => LoopAtV prog w A h₀ env x body Q E it s₂) E s := by
  subst hx
  refine tbr_invG (n := 60) (fun k m' nx => (∃ fvs' nf' q' tq', nx = (FL, listOf fvs'.toArray nf') :: rest ∧ FigsAre fvs' (400 + k) ∧ m' (Str.ofString "rest") = some (.int q' tq') ∧ 0 ≤ q') ∧ ∀ y, y ≠ Str.ofString "step" → y ≠ Str.ofString "rest" → ([] : List Str).contains y = false → m' y = m₀ y)
    hh hr (by decide) (by decide) F N ⟨⟨_, _, _, _, rfl, hf, hm, h0⟩, fun _ _ _ _ => rfl⟩ ?_ ?_
  · rintro i k t m₁ nx h tk own hk hoff ⟨⟨fvs, nf, q, tq, rfl, g1, g2, g3⟩, g4⟩ F₁ N₁
    have hi : i < 60 := by
      have := (List.getElem?_eq_some_iff.mp hk).1
      rwa [rangeKs_length] at this
    rw [map_some (stored := []) g2 g4] at F₁
    exact turn k t fvs nf i q tq m₁ h tk own hi hoff g1 g3 F₁ N₁
  · rintro m₁ nx h tk ⟨⟨fvs, nf, q, tq, rfl, g1, g2, g3⟩, g4⟩ F₁ N₁
    exact done fvs nf q tq m₁ h tk g1 g3 (map_self (stored := []) g2 g4 ▸ F₁) N₁
def poolS : List Str := ["big", "rest", "step"]
theorem pool_outer {l : Addr} {ws : List Value} {ns : List Int} {m₀ : Str → Option Value} {FL : Addr} {rest : Led} {fvs₀ : List Value} {nf₀ : Nat} {x₀ : Int} {tx₀ : Tok}
    (hi : IntsAre ws ns) (hf : FigsAre fvs₀ 400) (h0 : 0 ≤ x₀ ∧ x₀ < 1009) (hm : m₀ (Str.ofString "mix") = some (.int x₀ tx₀)) (F : Fr h₀ env.locals s.heap m₀) (N : News h₀ env.locals s.heap ((l, listOf ws.toArray 0) :: (FL, listOf fvs₀.toArray nf₀) :: rest))
    (hh : A.handled = none)
    (turn : ∀ (i : Int) t fvs nf (q : Int) tq (u : Str → Option Value) h tk own, OwnOff own (l :: FL :: rest.map (·.1)) → FigsAre fvs 400 → 0 ≤ q ∧ q < 1009 →
      Fr h₀ env.locals h (fun y => if y = Str.ofString "cell" then some (.int i t) else if y = Str.ofString "mix" then some (.int q tq) else if poolS.contains y then u y else m₀ y) → News h₀ env.locals h ((l, listOf ws.toArray 0) :: (FL, listOf fvs.toArray nf) :: (rest ++ own)) →
      wpAny (model prog w) A (execs body env) (InvPostN h₀ env.locals (fun m' nx => (∃ fvs' nf' q' tq', nx = (l, listOf ws.toArray 0) :: (FL, listOf fvs'.toArray nf') :: rest ∧ FigsAre fvs' 400 ∧ m' (Str.ofString "mix") = some (.int q' tq') ∧ 0 ≤ q' ∧ q' < 1009) ∧ ∀ y, y ≠ Str.ofString "cell" → y ≠ Str.ofString "mix" → poolS.contains y = false → m' y = m₀ y) own (l :: FL :: rest.map (·.1)) { s with heap := h, toks := tk } Q) E { s with heap := h, toks := tk })
    (done : ∀ fvs nf (q : Int) tq (u : Str → Option Value) h tk, FigsAre fvs 400 → 0 ≤ q ∧ q < 1009 →
      Fr h₀ env.locals h (fun y => if y = Str.ofString "cell" then u y else if y = Str.ofString "mix" then some (.int q tq) else if poolS.contains y then u y else m₀ y) → News h₀ env.locals h ((l, listOf ws.toArray 0) :: (FL, listOf fvs.toArray nf) :: rest) → Q .next { s with heap := h, toks := tk }) (hx : x = Str.ofString "cell") :
    wpAny (model prog w) A (pyIter (.ref l)) (fun it s₂ => LoopAtV prog w A h₀ env x body Q E it s₂) E s := by
  subst hx
  refine iter_invNL (nn := 0) (fun _ m' nx => (∃ fvs' nf' q' tq', nx = (l, listOf ws.toArray 0) :: (FL, listOf fvs'.toArray nf') :: rest ∧ FigsAre fvs' 400 ∧ m' (Str.ofString "mix") = some (.int q' tq') ∧ 0 ≤ q' ∧ q' < 1009) ∧ ∀ y, y ≠ Str.ofString "cell" → y ≠ Str.ofString "mix" → poolS.contains y = false → m' y = m₀ y)
    hh List.mem_cons_self hi F N ⟨⟨_, _, _, _, rfl, hf, hm, h0⟩, fun _ _ _ _ => rfl⟩ ?_ ?_
  · rintro i k t m₁ nx h tk own hk _ hoff _ ⟨⟨fvs, nf, q, tq, rfl, g1, g2, g3⟩, g4⟩ F₁ N₁
    rw [map_some (stored := poolS) g2 g4] at F₁
    refine wpAny_mono (turn k t fvs nf q tq m₁ h tk own hoff g1 g3 F₁ N₁) (fun f s₂ p => ?_) fun _ _ e => e
    have up : ∀ {J : (Str → Option Value) → Led → Prop} {adr s₁}, InvEndN h₀ env.locals (fun m' nx => (∃ fvs' nf' q' tq', nx = (l, listOf ws.toArray 0) :: (FL, listOf fvs'.toArray nf') :: rest ∧ FigsAre fvs' 400 ∧ m' (Str.ofString "mix") = some (.int q' tq') ∧ 0 ≤ q' ∧ q' < 1009) ∧ J m' nx) own adr s₁ s₂ →
        InvEndN h₀ env.locals (fun m' nx => (l, listOf ws.toArray 0) ∈ nx ∧ (∃ fvs' nf' q' tq', nx = (l, listOf ws.toArray 0) :: (FL, listOf fvs'.toArray nf') :: rest ∧ FigsAre fvs' 400 ∧ m' (Str.ofString "mix") = some (.int q' tq') ∧ 0 ≤ q' ∧ q' < 1009) ∧ J m' nx) own adr s₁ s₂ := by
      rintro J adr s₁ ⟨h', tk, m', news', nx, e, F', N', hn, ho, ha, ⟨fvs', nf', q', tq', rfl, k2⟩, k3⟩
      exact ⟨h', tk, m', news', _, e, F', N', hn, ho, ha, List.mem_cons_self, ⟨fvs', nf', q', tq', rfl, k2⟩, k3⟩
    cases f with
    | ret v => exact p
    | brk => exact p
    | next => exact up p
    | cont => exact up p
  · rintro m₁ nx h tk _ ⟨⟨fvs, nf, q, tq, rfl, g1, g2, g3⟩, g4⟩ F₁ N₁
    exact done fvs nf q tq m₁ h tk g1 g3 (map_self (stored := poolS) g2 g4 ▸ F₁) N₁
end

theorem led_swap {h₀ h : Heap} {L : Addr} {a b : Addr × Obj} {news : Led} (N : News h₀ L h (a :: b :: news)) : News h₀ L h (b :: a :: news) :=
  led_drop N (fun p hp => by
    simp only [List.mem_cons] at hp ⊢
    rcases hp with h | h | h <;> simp [h])
theorem inner_end {h₀ h' : Heap} {L FL : Addr} {m' m₀ : Str → Option Value} {fvs : List Value} {nf k : Nat} {rest own : Led} {s₁ : Shared} {tk : Nat} {v : Int} {tv : Tok} {q : Int} {tq : Tok}
    (hoff : ∀ p ∈ own, ∀ q ∈ (FL, listOf fvs.toArray nf) :: rest, p.1 ≠ q.1) (N : News h₀ L h' ((FL, listOf (fvs ++ [Value.int v tv]).toArray (nf + 1)) :: (rest ++ own))) (F : Fr h₀ L h' m') (hf : FigsAre fvs (400 + k)) (v1 : 0 ≤ v) (v2 : v < 840) (h1 : m' (Str.ofString "rest") = some (.int q tq)) (h2 : 0 ≤ q)
    (h3 : ∀ y, y ≠ Str.ofString "step" → y ≠ Str.ofString "rest" → ([] : List Str).contains y = false → m' y = m₀ y) :
    TbEnd h₀ L (fun m' nx => (∃ fvs' nf' q' tq', nx = (FL, listOf fvs'.toArray nf') :: rest ∧ FigsAre fvs' (400 + k + 1) ∧ m' (Str.ofString "rest") = some (.int q' tq') ∧ 0 ≤ q') ∧ ∀ y, y ≠ Str.ofString "step" → y ≠ Str.ofString "rest" → ([] : List Str).contains y = false → m' y = m₀ y) own s₁ { s₁ with heap := h', toks := tk } := by
  refine ⟨h', tk, m', _, (FL, listOf (fvs ++ [Value.int v tv]).toArray (nf + 1)) :: rest, rfl, F, N, ?_, ?_, ?_, ⟨_, _, q, tq, rfl, hf.snoc v1 v2, h1, h2⟩, h3⟩
  · intro p hp; simp only [List.mem_cons, List.mem_append] at hp ⊢; rcases hp with h | h <;> simp [h]
  · intro p hp; simp [hp]
  · intro p hp q hq
    rcases List.mem_cons.mp hq with rfl | hq
    · exact hoff p hp (FL, listOf fvs.toArray nf) List.mem_cons_self
    · exact hoff p hp q (.tail _ hq)
theorem outer_end {h₀ h' : Heap} {L l FL : Addr} {m' m₀ : Str → Option Value} {ws fvs : List Value} {nf n : Nat} {own led : Led} {s₁ : Shared} {tk : Nat} {q : Int} {tq : Tok}
    (N : News h₀ L h' led) (F : Fr h₀ L h' m') (h0 : (FL, listOf fvs.toArray nf) ∈ led) (h1 : (l, listOf ws.toArray 0) ∈ led) (h2 : ∀ p ∈ own, p ∈ led) (hf : FigsAre fvs n) (h3 : fvs.length ≤ 400) (h4 : m' (Str.ofString "mix") = some (.int q tq)) (h5 : 0 ≤ q ∧ q < 1009)
    (h6 : ∀ y, y ≠ Str.ofString "cell" → y ≠ Str.ofString "mix" → poolS.contains y = false → m' y = m₀ y) :
    InvEndN h₀ L (fun m' nx => (∃ fvs' nf' q' tq', nx = (l, listOf ws.toArray 0) :: (FL, listOf fvs'.toArray nf') :: [] ∧ FigsAre fvs' 400 ∧ m' (Str.ofString "mix") = some (.int q' tq') ∧ 0 ≤ q' ∧ q' < 1009) ∧ ∀ y, y ≠ Str.ofString "cell" → y ≠ Str.ofString "mix" → poolS.contains y = false → m' y = m₀ y) own (l :: FL :: ([] : Led).map (·.1)) s₁ { s₁ with heap := h', toks := tk } := by
  refine InvEndN.intro F N ⟨⟨fvs, nf, q, tq, rfl, hf.le h3, h4, h5⟩, h6⟩ rfl ?_ h2
  intro p hp
  rcases List.mem_cons.mp hp with rfl | hp
  · exact h1
  · rcases List.mem_cons.mp hp with rfl | hp
    · exact h0
    · cases hp
theorem pool_ret {h₀ h' : Heap} {L P FL : Addr} {t0 tm : Tok} {mix : Int} {led : Led} {fvs : List Value} {nf : Nat} (N : News h₀ L h' ((P, listOf [.ref FL, .int 0 t0, .int mix tm].toArray 0) :: led)) (hm : (FL, listOf fvs.toArray nf) ∈ led) (hf : FigsAre fvs 460) (hq : 0 ≤ mix ∧ mix < 1009) :
    ∃ o fvs nf, Pool FL o ∧ FigsAre fvs 460 ∧ News h₀ L h' [(P, o), (FL, listOf fvs.toArray nf)] := by
  refine ⟨_, fvs, nf, ⟨0, t0, mix, tm, 0, rfl, by decide, by decide, hq.1, hq.2⟩, hf, led_drop N ?_⟩
  intro p hp
  rcases List.mem_cons.mp hp with rfl | hp
  · exact List.mem_cons_self
  · rw [List.mem_singleton.mp hp]
    exact .tail _ hm

theorem pool_keep {H g h' : Heap} {L' : Addr} {m' : Str → Option Value} (G : GSub H g []) (F : Fr g L' h' m') : ∀ b o, H.get? b = some o → h'.get? b = some o := fun b o e => F.keep b o (G b o e (List.not_mem_nil))
section
theorem word_33 : True := by
  k_with "My_k_enter_32_0" => (refine' code_defG ?k1_q9 ?k2_q9 ?k3_q9 ?k4_q9 ?k5_q9 ?kA_q9 ?kF_q9 ?kK_q9 ?k6_q9 ?k7_q9 ?k8_q9 ?k9_q9 ?kB_q9 ?_ ?c2_q9 ?c3_q9 ?c4_q9 ?c5_q9; (case kA_q9 => exact rfl); (case kF_q9 => exact rfl); (case kK_q9 => assumption); (case k1_q9 => k_asm); (case k2_q9 => k_asm); (case k3_q9 => k_asm); (case k4_q9 => k_asm); (case k5_q9 => k_asm); (case k6_q9 => k_is); (case k7_q9 => k_is); (case k8_q9 => k_room); (case k9_q9 => first | exact BindsTo.of_eq rfl | exact binds_K (by k_in) rfl (by k_is) rfl rfl rfl | fail "k_enter: no rule for these arguments"); (case c5_q9 => decide); (case kB_q9 => exact locs rfl); (case c2_q9 => exact rfl); (case c3_q9 => exact rfl); (case c4_q9 => exact rfl); k_whole; intro g' L' h' FG' F' N' B' X' T' kG'; (try dsimp only); (try k_lift B'); (try k_fold))
  trivial
 local macro_rules | `(tactic| k_enter) => `(tactic| k_extra "My_k_enter_32_0")
set_option maxRecDepth 100000 in
set_option maxHeartbeats 8000000 in
theorem pool_call (w : World) (scr : Addr) (vs : List Value) (ns : List Int) (hi : IntsAre vs ns) (hn : vs.length ≤ 1000) (p : Program) (loose : List Str) (mean : ExcName → Option Value) (mg mb : Str → Option Value) (dp un : Nat) (gd : Option (List Code)) (cn : Str) (cs : Scope) (a : Addr) (ccd : Value) (cl : List (Str × Addr)) (outer : List Env) (A₀ : Around) (base h₀ : Heap) (L : Addr) (m : Str → Option Value) (s : Shared) (Q E : Value → Shared → Prop)
    (B : Below A₀ base outer h₀) (F : Fr h₀ L s.heap m) (X : (KK w.params).In h₀) (N : News h₀ L s.heap []) (T : Top p loose mean mg mb h₀) (hk : cs.kind = .function) (hl : base.IsList scr vs.toArray) (hd : dp ≤ 900) (hu : un ≤ 9000)
    (hret : ∀ P FL o fvs nf h' tk', Pool FL o → FigsAre fvs 460 → @LT.lt Nat _ FL P → (∀ b o, s.heap.get? b = some o → h'.get? b = some o) → Fr h₀ L h' m → News h₀ L h' [(P, o), (FL, listOf fvs.toArray nf)] → Q (.ref P) { s with heap := h', toks := tk' }) :
    wpAny (model Challenge.rw_nu0337_01.row.prog w) (ktrTop dp un gd cn cs L a ccd cl outer) (call (.ref 345) [.ref scr]) Q E s := by
  refine wpAny_le (A := ktrTop 900 9000 gd cn cs L a ccd cl outer) (d := dp) (u := un) ?_ hd hu
  w_top off
  revert X
  k_fill
  intro X
  have hl' := hl
  have hz := hi.length
  k_with "exec For Name Subscript cons nil" => ((rename Fr _ _ _ _ => lF'); (with_unfolding_all refine' For_invVF lF' ?k1 ?k2 ?_; (case k1 => exact rfl); (case k2 => exact rfl); k_whole))
  k_with "pyIter ref" =>
    focus
      (rename News _ _ _ _ => hN9)
      (rename Fr _ _ _ _ => hF9)
      (rename IntsAre _ _ => hI9)
      k_dflt (refine' pool_outer (fvs₀ := []) hI9 ⟨[], .nil, by decide, by simp⟩ ?hmix (by exact rfl) hF9 hN9 (by exact rfl) (fun ci ct fvs nf q tq u h tk own hoff hf hq F' N' => ?_) (fun fvs nf q tq u h tk hf hq F' N' => ?_) (by exact rfl))
      case hmix => decide
      all_goals (try dsimp only [List.map_nil] at hoff)
      all_goals (try simp only [List.nil_append] at N')
      rotate_left
      all_goals (try dsimp only)
      rotate_left
      have hy1 := OwnOff.ne hoff (List.mem_cons_of_mem _ List.mem_cons_self)
      have hy0 := OwnOff.ne hoff List.mem_cons_self
  k_with "pyIter ref" =>
    (rename IsRange _ _ _ _ _ _ _ _ => hr9)
    focus
      (rename News _ _ _ _ => hN9)
      (rename Fr _ _ _ _ => hF9)
      k_dflt (refine' pool_inner (F := hF9) (N := led_swap hN9) hr9 hf (by exact rfl) (by exact rfl) (by first | omega | (split <;> omega)) (fun si sst fvs nf k r tr u2 h tk own2 hk9 hoff2 hf2 hr2 F' N' => ?_) (fun fvs nf r tr u2 h tk hf2 hr2 F' N' => ?_) (by exact rfl))
      all_goals (try simp only [List.cons_append] at N')
      all_goals (have hl9 := hf2.len)
      rotate_left
      all_goals (try dsimp only)
      rotate_left
  k_with "call builtin:list.append" => ((with_reducible show wpAny _ _ (call (Value.builtin _) [Value.ref _, _]) _ _ _); k_dflt (refine' append_K ?k1 ?k2 ?k3 ?_ ?z; (case k1 => k_asm); (case k2 => k_asm); (case k3 => k_upd); (case z => size_fits); k_whole); intro h' F' N'; (try simp only [List.push_toArray] at N'); (try k_sweep))
  k_extra "MyStp"
  all_goals (try dsimp only)
  all_goals first
    | exact inner_end hoff2 (by k_asm) (by k_asm) hf2 (Int.fmod_nonneg_of_pos _ (by omega)) (Int.fmod_lt_of_pos _ (by omega)) (by exact rfl) (Int.fdiv_nonneg hr2 (by decide)) (fun y h1 h2 h3 => by first | exact (if_neg h1).trans ((if_neg h2).trans (if_neg (by rw [h3]; exact Bool.false_ne_true))) | simp_all)
    | exact outer_end (by k_asm) (by k_asm) (by k_extra "MyMem") (by k_extra "MyMem") (by k_extra "MySub") (by first | assumption | exact FigsAre.snoc hf2 (Int.fmod_nonneg_of_pos _ (by omega)) (Int.fmod_lt_of_pos _ (by omega))) (by omega) (by exact rfl) ⟨Int.fmod_nonneg_of_pos _ (by omega), Int.fmod_lt_of_pos _ (by omega)⟩ (fun y h1 h2 h3 => by simp_all [poolS])
    | (obtain ⟨o9, fvs9, nf9, q1, q2, q3⟩ := pool_ret ‹News h₀ L _ _› (by k_extra "MyMem") (by first | exact FigsAre.le hf (by have := hf.len; omega) | exact FigsAre.le hf2 (by omega) | exact FigsAre.le (FigsAre.snoc hf2 (Int.fmod_nonneg_of_pos _ (by omega)) (Int.fmod_lt_of_pos _ (by omega))) (by simp only [List.length_append, List.length_cons, List.length_nil]; omega)) (by first | exact hq | exact ⟨Int.fmod_nonneg_of_pos _ (by omega), Int.fmod_lt_of_pos _ (by omega)⟩)
       exact hret _ _ _ _ _ _ _ q1 q2 (by refine ltN ?_; omega) (pool_keep (by assumption) (by assumption)) (by k_asm) q3)
   
end


theorem tick_types {prog : Program} {w : World} {A : Around} {env : Env} {E : Value → Shared → Prop} {s : Shared} {Q : Flow → Shared → Prop} (h : wpAny (model prog w) A (execs [] env) Q E s) : wpAny (model prog w) A (execs [] env) Q E s := by
  first | (walk1; fail) | exact h

/-- a new Type's dict, its five open parts told -/
def tyD (P : Params) (ts : Nat → Tok) (num : Int) (tn : Tok) (form : Str) (tf : Tok) (size base : Value) (len : Int) (tl : Tok) (fl : Addr) (t6 : Tok) (params : Value) (mo lb : Str) (t8 t9 : Tok) (hl : Addr) (t11 : Tok) : Obj :=
  dictOf (tyEs P ts num tn form tf size base len tl (.ref fl) (.int 0 t6) params (.str mo t8) (.str lb t9) (.ref hl) (.int 0 t11)) 12
def TyNew (P : Params) (a d : Addr) (o : Obj) (tl : Led) (num : Int) (form : Str) (base : Value) (len : Int) : Prop :=
  ∃ (ts : Nat → Tok) (tn tf tk : Tok) (size : Value) (fl pl hl : Addr) (t6 t8 t9 t11 : Tok) (mo lb : Str), o = tyD P ts num tn form tf size base len tk fl t6 (.ref pl) mo lb t8 t9 hl t11 ∧ (a, instObj 277 d) ∈ tl ∧ (∀ p ∈ tl, p.1 ≠ d)
def tk12 (t0 t1 t2 t3 t4 t5 t6 t7 t8 t9 t10 t11 : Tok) : Nat → Tok := fun i => match i with
  | 0 => t0 | 1 => t1 | 2 => t2 | 3 => t3 | 4 => t4 | 5 => t5 | 6 => t6 | 7 => t7 | 8 => t8 | 9 => t9 | 10 => t10 | _ => t11
theorem type_led {h₀ h : Heap} {L : Addr} {a b c e d : Addr × Obj} {news : Led} (N : News h₀ L h (a :: b :: c :: e :: d :: news)) : News h₀ L h (d :: ([a, b, c, e] ++ news)) :=
  led_drop N fun p hp => by
    simp only [List.mem_cons, List.mem_append, List.not_mem_nil, or_false] at hp ⊢
    rcases hp with h | (h | h | h | h) | h <;> simp [h]
theorem Abv.rest {p : Addr × Obj} {tl led : Led} (h : Abv (p :: tl) led) : Abv tl led := fun q hq => h q (.tail _ hq)
theorem lt_tail {e : Addr × Obj} {led : Led} {d : Addr} (h : ∀ q ∈ e :: led, @LT.lt Nat _ q.1 d) : ∀ q ∈ led, @LT.lt Nat _ q.1 d := fun q hq => h q (.tail _ hq)
theorem lt_head {e : Addr} {x : Obj} {led : Led} {d : Addr} (h : ∀ q ∈ (e, x) :: led, @LT.lt Nat _ q.1 d) : @LT.lt Nat _ e d := h _ List.mem_cons_self
theorem Abv.hd {d : Addr} {o : Obj} {tl led : Led} (h : Abv ((d, o) :: tl) led) : ∀ q ∈ led, @LT.lt Nat _ q.1 d := fun q hq => h _ List.mem_cons_self q hq

set_option maxRecDepth 100000 in
set_option maxHeartbeats 8000000 in
theorem type_spec (w : World) (news : Led) (num : Int) (tn : Tok) (form : Str) (tf : Tok) (size : Value) :
    Spec w 277 [.int num tn, .str form tf, size] 960 9500 news
      (fun r nx => ∃ a d o tl, r = .ref a ∧ nx = (d, o) :: (tl ++ news) ∧ Abv ((d, o) :: tl) news ∧ TyNew w.params a d o tl num form .none 0) := by
  w_top off
  unfold Spec
  k_fill
  intro p loose mean mg mb gd cn cs a₀ ccd cl outer A₀ base h₀ L m s Q E B F X N T hk hret
  k_extra "MyStp"
  all_goals (try dsimp only)
  refine hret _ _ _ _ ⟨_, _, tyD w.params (tk12 _ _ _ _ _ _ _ _ _ _ _ _) _ _ _ _ _ _ _ _ _ _ _ _ _ _ _ _ _, [_, _, _, _], rfl, rfl, ?_, ⟨_, _, _, _, _, _, _, _, _, _, _, _, _, _, rfl, ?_, ?_⟩⟩ (by k_asm) (type_led (by assumption))
  · k_extra "MyAbv"
  · k_extra "MyMem"
  · k_extra "MySep"
theorem type_cps {w : World} {news : Led} {num : Int} {form : Str} (C : Value → Led → Prop) (h9 : ∀ a d tl (tsx : Nat → Tok) (tnx tfx tkx : Tok) (szx : Value) (flx plx hlx : Addr) (t6x t8x t9x t11x : Tok) (mox lbx : Str), (Abv ((d, (tyD w.params tsx num tnx form tfx szx .none 0 tkx flx t6x (.ref plx) mox lbx t8x t9x hlx t11x)) :: tl) news) → ((a, instObj 277 d) ∈ tl) → (∀ p ∈ tl, p.1 ≠ d) → C (.ref a) ((d, (tyD w.params tsx num tnx form tfx szx .none 0 tkx flx t6x (.ref plx) mox lbx t8x t9x hlx t11x)) :: (tl ++ news))) : ∀ r nx, (∃ a d o tl, r = .ref a ∧ nx = (d, o) :: (tl ++ news) ∧ Abv ((d, o) :: tl) news ∧ TyNew w.params a d o tl num form .none 0) → C r nx := by
  rintro r nx ⟨a, d, o, tl, rfl, rfl, hc0, ⟨tsx, tnx, tfx, tkx, szx, flx, plx, hlx, t6x, t8x, t9x, t11x, mox, lbx, rfl, ha, hb⟩⟩
  exact h9 a d tl tsx tnx tfx tkx szx flx plx hlx t6x t8x t9x t11x mox lbx hc0 ha hb


theorem word_34 : True := by
  k_with "call ref" => (k_here; (with_reducible show wpAny _ _ (call (Value.ref 277) _) _ _ _); k_dflt (refine' Spec.useC (type_spec _ _ _ _ _ _ _) type_cps ?k1_q9 ?k2_q9 ?k3_q9 ?k4_q9 ?k5_q9 ?k6_q9 ?k7_q9 ?k8_q9 ?_; (case k1_q9 => k_asm); (case k2_q9 => k_asm); (case k3_q9 => k_asm); (case k4_q9 => k_extra "MyLed"); (case k5_q9 => k_asm); (case k6_q9 => first | exact rfl | assumption); (case k7_q9 => exact Nat.le_of_ble_eq_true rfl); (case k8_q9 => exact Nat.le_of_ble_eq_true rfl); k_whole; intro a9 d9 tl9 ts9 tn9 tf9 tk9 sz9 fl9 pl9 hl9 t69 t89 t99 t119 mo9 lb9 b9 n9a n9b h9 tk9 F9 N9; have u9 := Abv.hd b9; have x9 := Abv.rest b9; (try k_sweep); (try dsimp only); (try k_fold)))
  trivial
def tysD (P : Params) (ts : Nat → Tok) (c : Int) (tc : Tok) (known : Value) (bo ch bt it : Addr) (ma ni : Value) (no : Addr) : Obj := dictOf (typesEs P ts c tc known bo ch bt it ma ni no) 9
theorem Abv.re {d e : Addr} {o o' x x' : Obj} {tl led : Led} (h : Abv ((d, o) :: tl) ((e, x) :: led)) : Abv ((d, o') :: tl) ((e, x') :: led) := fun p hp q hq => by
  have h1 : ∃ z, (p.1, z) ∈ (d, o) :: tl := by
    rcases List.mem_cons.mp hp with rfl | hp
    · exact ⟨o, List.mem_cons_self⟩
    · exact ⟨p.2, .tail _ hp⟩
  have h2 : ∃ z, (q.1, z) ∈ (e, x) :: led := by
    rcases List.mem_cons.mp hq with rfl | hq
    · exact ⟨x, List.mem_cons_self⟩
    · exact ⟨q.2, .tail _ hq⟩
  obtain ⟨z, h1⟩ := h1
  obtain ⟨y, h2⟩ := h2
  exact h (p.1, z) h1 (q.1, y) h2
theorem new_led {h₀ h : Heap} {L : Addr} {d t : Addr × Obj} {tl news : Led} (N : News h₀ L h (d :: (tl ++ t :: news))) : News h₀ L h (t :: d :: (tl ++ news)) :=
  led_drop N fun p hp => by
    simp only [List.mem_cons, List.mem_append] at hp ⊢
    rcases hp with h | h | h | h <;> simp [h]

set_option maxRecDepth 100000 in
set_option maxHeartbeats 8000000 in
theorem new_spec (w : World) (news : Led) (TO TD : Addr) (ts : Nat → Tok) (c : Int) (tc : Tok) (known : Value) (bo ch bt it : Addr) (ma ni : Value) (no : Addr) (form : Str) (tf : Tok) (size : Value)
    (hT : (TO, instObj 334 TD) ∈ news) (s1 : ∀ p ∈ news, p.1 ≠ TD) (c1 : 0 ≤ c) (c2 : c ≤ 1000) :
    Spec w 324 [.ref TO, .str form tf, size] 920 9100 ((TD, tysD w.params ts c tc known bo ch bt it ma ni no) :: news)
      (fun r nx => ∃ a d o tl tc', r = .ref a ∧ nx = (TD, tysD w.params ts (c + 1) tc' known bo ch bt it ma ni no) :: (d, o) :: (tl ++ news) ∧ Abv ((d, o) :: tl) ((TD, tysD w.params ts c tc known bo ch bt it ma ni no) :: news) ∧ TyNew w.params a d o tl (c + 1) form .none 0) := by
  unfold Spec
  k_fill
  intro p loose mean mg mb gd cn cs a₀ ccd cl outer A₀ base h₀ L m s Q E B F X N T hk hret
  unfold tysD at N
  k_extra "MyStp"
  all_goals (try dsimp only)
  exact hret _ _ _ _ ⟨_, _, tyD w.params _ _ _ _ _ _ _ _ _ _ _ _ _ _ _ _ _ _, _, _, rfl, rfl, Abv.re (by assumption), ⟨_, _, _, _, _, _, _, _, _, _, _, _, _, _, rfl, by assumption, by assumption⟩⟩ (by k_asm) (new_led (by assumption))
theorem new_cps {w : World} {news : Led} {TD : Addr} {ts : Nat → Tok} {c : Int} {tc : Tok} {known : Value} {bo ch bt it : Addr} {ma ni : Value} {no : Addr} {form : Str} (C : Value → Led → Prop) (h9 : ∀ a d tl tc' (tsx : Nat → Tok) (tnx tfx tkx : Tok) (szx : Value) (flx plx hlx : Addr) (t6x t8x t9x t11x : Tok) (mox lbx : Str), (Abv ((d, (tyD w.params tsx (c + 1) tnx form tfx szx .none 0 tkx flx t6x (.ref plx) mox lbx t8x t9x hlx t11x)) :: tl) ((TD, tysD w.params ts c tc known bo ch bt it ma ni no) :: news)) → ((a, instObj 277 d) ∈ tl) → (∀ p ∈ tl, p.1 ≠ d) → C (.ref a) ((TD, tysD w.params ts (c + 1) tc' known bo ch bt it ma ni no) :: (d, (tyD w.params tsx (c + 1) tnx form tfx szx .none 0 tkx flx t6x (.ref plx) mox lbx t8x t9x hlx t11x)) :: (tl ++ news))) : ∀ r nx, (∃ a d o tl tc', r = .ref a ∧ nx = (TD, tysD w.params ts (c + 1) tc' known bo ch bt it ma ni no) :: (d, o) :: (tl ++ news) ∧ Abv ((d, o) :: tl) ((TD, tysD w.params ts c tc known bo ch bt it ma ni no) :: news) ∧ TyNew w.params a d o tl (c + 1) form .none 0) → C r nx := by
  rintro r nx ⟨a, d, o, tl, tc', rfl, rfl, hc0, ⟨tsx, tnx, tfx, tkx, szx, flx, plx, hlx, t6x, t8x, t9x, t11x, mox, lbx, rfl, ha, hb⟩⟩
  exact h9 a d tl tc' tsx tnx tfx tkx szx flx plx hlx t6x t8x t9x t11x mox lbx hc0 ha hb


theorem word_35 : True := by
  k_with "call ref" => (k_here; (with_reducible show wpAny _ _ (call (Value.ref 324) _) _ _ _); k_dflt (refine' Spec.useC (new_spec _ _ _ _ _ _ _ _ _ _ _ _ _ _ _ _ _ _ ?h1_q9 ?h2_q9 ?h3_q9 ?h4_q9) new_cps ?k1_q9 ?k2_q9 ?k3_q9 ?k4_q9 ?k5_q9 ?k6_q9 ?k7_q9 ?k8_q9 ?_; (case k1_q9 => k_asm); (case k2_q9 => k_asm); (case k3_q9 => k_asm); (case k4_q9 => (refine' Pick.one (by assumption) ?k40_q9; (case k40_q9 => k_extra "MyPick"))); (case h1_q9 => k_extra "MyMem"); (case k5_q9 => k_asm); (case k6_q9 => first | exact rfl | assumption); (case k7_q9 => exact Nat.le_of_ble_eq_true rfl); (case k8_q9 => exact Nat.le_of_ble_eq_true rfl); (case h2_q9 => k_extra "MySep"); (case h3_q9 => omega); (case h4_q9 => omega); k_whole; intro a9 d9 tl9 tc9 ts9 tn9 tf9 tk9 sz9 fl9 pl9 hl9 t69 t89 t99 t119 mo9 lb9 b9 n9a n9b h9 tk9 F9 N9; have u9 := Abv.hd b9; have v9 := lt_head u9; have w9 := lt_tail u9; have x9 := Abv.rest b9; (try k_sweep); (try dsimp only); (try k_fold)))
  trivial
set_option maxRecDepth 100000 in
set_option maxHeartbeats 8000000 in
theorem string_spec (w : World) (news : Led) (TO TD : Addr) (ts : Nat → Tok) (c : Int) (tc : Tok) (known : Value) (bo ch bt it : Addr) (ma ni : Value) (no : Addr) (len : Int) (tl0 : Tok)
    (hT : (TO, instObj 334 TD) ∈ news) (s1 : ∀ p ∈ news, p.1 ≠ TD) (c1 : 0 ≤ c) (c2 : c ≤ 1000) :
    Spec w 331 [.ref TO, .int len tl0] 900 8900 ((TD, tysD w.params ts c tc known bo ch bt it ma ni no) :: news)
      (fun r nx => ∃ a tl tc', r = .ref a ∧ nx = (TD, tysD w.params ts (c + 1) tc' known bo ch bt it ma ni no) :: (tl ++ news) ∧ Abv tl ((TD, tysD w.params ts c tc known bo ch bt it ma ni no) :: news) ∧ IsTy w.params tl a (.str (c + 1) len)) := by
  unfold Spec
  k_fill
  intro p loose mean mg mb gd cn cs a₀ ccd cl outer A₀ base h₀ L m s Q E B F X N T hk hret
  k_extra "MyStp"
  all_goals (try dsimp only)
  exact hret _ _ _ _ ⟨_, _ :: _, _, rfl, rfl, Abv.re (by assumption), ⟨_, _, ⟨_, _, _, _, _, _, _, _, _, _, _, _, List.mem_cons_of_mem _ (by assumption), List.mem_cons_self⟩, fun e => nomatch e⟩⟩ (by k_asm) (by assumption)
theorem string_cps {w : World} {news : Led} {TD : Addr} {ts : Nat → Tok} {c : Int} {tc : Tok} {known : Value} {bo ch bt it : Addr} {ma ni : Value} {no : Addr} {len : Int} (C : Value → Led → Prop) (h9 : ∀ a tl tc', (Abv tl ((TD, tysD w.params ts c tc known bo ch bt it ma ni no) :: news)) → (IsTy w.params tl a (.str (c + 1) len)) → C (.ref a) ((TD, tysD w.params ts (c + 1) tc' known bo ch bt it ma ni no) :: (tl ++ news))) : ∀ r nx, (∃ a tl tc', r = .ref a ∧ nx = (TD, tysD w.params ts (c + 1) tc' known bo ch bt it ma ni no) :: (tl ++ news) ∧ Abv tl ((TD, tysD w.params ts c tc known bo ch bt it ma ni no) :: news) ∧ IsTy w.params tl a (.str (c + 1) len)) → C r nx := by
  rintro r nx ⟨y1, y2, y3, ⟨rfl, rfl, y4, y5⟩⟩
  exact h9 y1 y2 y3 y4 y5


theorem word_36 : True := by
  k_with "call ref" => (k_here; (with_reducible show wpAny _ _ (call (Value.ref 331) _) _ _ _); k_dflt (refine' Spec.useC (string_spec _ _ _ _ _ _ _ _ _ _ _ _ _ _ _ _ _ ?h1_q9 ?h2_q9 ?h3_q9 ?h4_q9) string_cps ?k1_q9 ?k2_q9 ?k3_q9 ?k4_q9 ?k5_q9 ?k6_q9 ?k7_q9 ?k8_q9 ?_; (case k1_q9 => k_asm); (case k2_q9 => k_asm); (case k3_q9 => k_asm); (case k4_q9 => (refine' Pick.one (by assumption) ?k40_q9; (case k40_q9 => k_extra "MyPick"))); (case h1_q9 => k_extra "MyMem"); (case k5_q9 => k_asm); (case k6_q9 => first | exact rfl | assumption); (case k7_q9 => exact Nat.le_of_ble_eq_true rfl); (case k8_q9 => exact Nat.le_of_ble_eq_true rfl); (case h2_q9 => k_extra "MySep"); (case h3_q9 => omega); (case h4_q9 => omega); k_whole; intro a9 tl9 tc9 b9 n9 h9 tk9 F9 N9; (try k_sweep); (try dsimp only); (try k_fold)))
  trivial
theorem Upd.app {d : Addr} {o o' : Obj} {r r' : Led} (u : Upd d o o' r r') : ∀ {l : Led}, (∀ p ∈ l, p.1 ≠ d) → Upd d o o' (l ++ r) (l ++ r')
  | [], _ => u
  | p :: l, h => .tail (h p List.mem_cons_self) (Upd.app u fun q hq => h q (.tail _ hq))
theorem ne_up {led : Led} {d e : Addr} {x : Obj} (u : ∀ q ∈ led, @LT.lt Nat _ q.1 d) (hm : (e, x) ∈ led) : @Ne Nat d e := Nat.ne_of_gt (u _ hm)
theorem ne_dn {led : Led} {d e : Addr} {x : Obj} (u : ∀ q ∈ led, @LT.lt Nat _ q.1 d) (hm : (e, x) ∈ led) : @Ne Nat e d := Nat.ne_of_lt (u _ hm)
theorem word_37 : True := by
  k_with "MyNe" => first | assumption | (refine neN ?_; (try dsimp only); first | assumption | exact Ne.symm (by assumption) | exact Nat.ne_of_lt (by k_extra "MyLt1") | exact Nat.ne_of_gt (by k_extra "MyLt1") | exact ne_up (by assumption) (by k_extra "MyMem") | exact ne_dn (by assumption) (by k_extra "MyMem"))
  k_with "My_k_upd_36_1" => first | (refine' Upd.head ?a_q9; (case a_q9 => k_extra "MySep")) | (refine' Upd.tail ?a_q9 ?b_q9; (case a_q9 => k_extra "MyNe"); (case b_q9 => k_upd)) | (refine' Upd.app ?b_q9 ?a_q9; (case a_q9 => k_extra "MySep"); (case b_q9 => k_upd))
  trivial
local macro_rules | `(tactic| k_upd) => `(tactic| k_extra "My_k_upd_36_1")


theorem tick_errl {prog : Program} {w : World} {A : Around} {env : Env} {E : Value → Shared → Prop} {s : Shared} {Q : Flow → Shared → Prop} (h : wpAny (model prog w) A (execs [] env) Q E s) : wpAny (model prog w) A (execs [] env) Q E s := by
  first | (walk1; fail) | exact h

theorem errl_led {h₀ h : Heap} {L : Addr} {a d r q : Addr × Obj} {news : Led} (N : News h₀ L h (q :: r :: a :: d :: news)) : News h₀ L h (r :: q :: ([a, d] ++ news)) :=
  led_drop N fun p hp => by
    simp only [List.mem_cons, List.mem_append, List.not_mem_nil, or_false] at hp ⊢
    rcases hp with h | h | (h | h) | h <;> simp [h]
theorem IsErr.intro {P : Params} {news : Led} {EO d RL PD : Addr} {t0 t1 : Tok} (h1 : (EO, instObj 256 d) ∈ news)
    (h2 : (d, dictOf [⟨PyData.keyHash P "rows", .str "rows" t0, .ref RL⟩, ⟨PyData.keyHash P "places", .str "places" t1, .ref PD⟩] 2) ∈ news) (h3 : (PD == sysModules) = false) (h4 : @Ne Nat RL PD) : IsErr P news EO RL PD :=
  ⟨d, fun i => match i with | 0 => t0 | _ => t1, h1, h2, h3, h4⟩

set_option maxRecDepth 100000 in
set_option maxHeartbeats 8000000 in
theorem errl_spec (w : World) (news : Led) :
    Spec w 256 [] 900 8900 news (fun r nx => ∃ EO RL PD o tl, r = .ref EO ∧ nx = (RL, listOf ([] : List Value).toArray 0) :: (PD, o) :: (tl ++ news) ∧ Abv ((RL, listOf ([] : List Value).toArray 0) :: (PD, o) :: tl) news ∧
      IsErr w.params tl EO RL PD ∧ Rows w [] [] o [] ∧ (∀ p ∈ tl, p.1 ≠ RL) ∧ (∀ p ∈ tl, p.1 ≠ PD)) := by
  w_top off
  unfold Spec
  k_fill
  intro p loose mean mg mb gd cn cs a₀ ccd cl outer A₀ base h₀ L m s Q E B F X N T hk hret
  k_extra "MyStp"
  all_goals (try dsimp only)
  refine hret _ _ _ _ ⟨_, _, _, _, [_, _], rfl, rfl, ?_, ?_, ?_, ?_, ?_⟩ (by k_asm) (errl_led (by assumption))
  · k_extra "MyAbv"
  · exact IsErr.intro (by k_extra "MyMem") (by k_extra "MyMem") (by assumption) (by k_extra "MyNe")
  · exact ⟨.nil, by decide, _, by assumption, by assumption⟩
  · k_extra "MySep"
  · k_extra "MySep"
theorem errl_cps {w : World} {news : Led} (C : Value → Led → Prop) (h9 : ∀ EO RL PD o tl, (Abv ((RL, listOf ([] : List Value).toArray 0) :: (PD, o) :: tl) news) → (IsErr w.params tl EO RL PD) → (Rows w [] [] o []) → ((∀ p ∈ tl, p.1 ≠ RL)) → ((∀ p ∈ tl, p.1 ≠ PD)) → C (.ref EO) ((RL, listOf ([] : List Value).toArray 0) :: (PD, o) :: (tl ++ news))) : ∀ r nx, (∃ EO RL PD o tl, r = .ref EO ∧ nx = (RL, listOf ([] : List Value).toArray 0) :: (PD, o) :: (tl ++ news) ∧ Abv ((RL, listOf ([] : List Value).toArray 0) :: (PD, o) :: tl) news ∧ IsErr w.params tl EO RL PD ∧ Rows w [] [] o [] ∧ (∀ p ∈ tl, p.1 ≠ RL) ∧ (∀ p ∈ tl, p.1 ≠ PD)) → C r nx := by
  rintro r nx ⟨y1, y2, y3, y4, y5, ⟨rfl, rfl, y6, y7, y8, y9, y10⟩⟩
  exact h9 y1 y2 y3 y4 y5 y6 y7 y8 y9 y10


theorem word_38 : True := by
  k_with "call ref" => (k_here; (with_reducible show wpAny _ _ (call (Value.ref 256) _) _ _ _); k_dflt (refine' Spec.useC (errl_spec _ _) errl_cps ?k1_q9 ?k2_q9 ?k3_q9 ?k4_q9 ?k5_q9 ?k6_q9 ?k7_q9 ?k8_q9 ?_; (case k1_q9 => k_asm); (case k2_q9 => k_asm); (case k3_q9 => k_asm); (case k4_q9 => k_extra "MyLed"); (case k5_q9 => k_asm); (case k6_q9 => first | exact rfl | assumption); (case k7_q9 => exact Nat.le_of_ble_eq_true rfl); (case k8_q9 => exact Nat.le_of_ble_eq_true rfl); k_whole; intro EO9 RL9 PD9 o9 tl9 b9 e9 w9 y91 y92 h9 tk9 F9 N9; have u9 := Abv.hd b9; have u8 := Abv.hd (Abv.rest b9); have x9 := Abv.rest (Abv.rest b9); obtain ⟨ed9, et9, em9, en9, ep9, eq9⟩ := id e9; (try k_sweep); (try dsimp only); (try k_fold)))
  trivial

theorem tick_new0 {prog : Program} {w : World} {A : Around} {env : Env} {E : Value → Shared → Prop} {s : Shared} {Q : Flow → Shared → Prop} (h : wpAny (model prog w) A (execs [] env) Q E s) : wpAny (model prog w) A (execs [] env) Q E s := by
  first | (walk1; fail) | exact h

section
variable {w : World} {A : Around} {E : Value → Shared → Prop} {s : Shared} {h₀ : Heap} {L x TD : Addr} {m : Str → Option Value} {news news' : Led} {H : Int} {t0 : Tok} {es : List DictEntry} {n : Nat} {v v' : Value}
theorem get_cnt {expr : Bool} {Q : Value → Shared → Prop} (F : Fr h₀ L s.heap m) (X : (KK w.params).In h₀) (N : News h₀ L s.heap news) (h1 : (x, instObj 334 TD) ∈ news) (h2 : (TD, dictOf (⟨H, .str "counter" t0, v⟩ :: es) n) ∈ news) (hv : handedIn v = true)
    (h : Q v { s with toks := s.toks + 1 }) : wpAny (model Challenge.rw_nu0337_01.row.prog w) A (getAttr (.ref x) "counter" expr) Q E s := by
  w_top off
  revert X
  k_fill
  intro X
  exact get_own F X (InstAt.of_news N h1 h2) (by k_is) (by k_is) (by k_is) (by k_is) rfl hv h
theorem set_cnt {Q : Unit → Shared → Prop} (F : Fr h₀ L s.heap m) (X : (KK w.params).In h₀) (N : News h₀ L s.heap news) (h1 : (x, instObj 334 TD) ∈ news) (h2 : (TD, dictOf (⟨H, .str "counter" t0, v⟩ :: es) n) ∈ news)
    (U : Upd TD (dictOf (⟨H, .str "counter" t0, v⟩ :: es) n) (dictOf (⟨H, .str "counter" t0, v'⟩ :: es) n) news news') (hz : es.length ≤ 900)
    (h : ∀ h', Fr h₀ L h' m → News h₀ L h' news' → Q () { s with heap := h', toks := s.toks + 2 }) : wpAny (model Challenge.rw_nu0337_01.row.prog w) A (setAttr (.ref x) "counter" v') Q E s := by
  revert X
  k_fill
  intro X
  exact set_dict (es' := ⟨H, .str "counter" t0, v'⟩ :: es) (n' := n) F X N (InstAt.of_news N h1 h2) rfl (by k_is) (by k_is) (by k_is) (by k_is) rfl rfl U (by simp only [List.length_cons]; omega) h
end

set_option maxRecDepth 100000 in
set_option maxHeartbeats 8000000 in
theorem new0_spec (w : World) (news : Led) (TO TD : Addr) (t0 : Tok) (c : Int) (tc : Tok) (es : List DictEntry) (n : Nat) (form : Str) (tf : Tok) (size : Value)
    (hT : (TO, instObj 334 TD) ∈ news) (s1 : ∀ p ∈ news, p.1 ≠ TD) (c1 : 0 ≤ c) (c2 : c ≤ 1000) (hz : es.length ≤ 900) :
    Spec w 324 [.ref TO, .str form tf, size] 920 9100 ((TD, dictOf (⟨PyData.keyHash w.params "counter", .str "counter" t0, .int c tc⟩ :: es) n) :: news)
      (fun r nx => ∃ a d o tl tc', r = .ref a ∧ nx = (TD, dictOf (⟨PyData.keyHash w.params "counter", .str "counter" t0, .int (c + 1) tc'⟩ :: es) n) :: (((d, o) :: tl) ++ news) ∧ Abv ((d, o) :: tl) ((TD, dictOf (⟨PyData.keyHash w.params "counter", .str "counter" t0, .int c tc⟩ :: es) n) :: news) ∧ TyNew w.params a d o tl (c + 1) form .none 0) := by
  unfold Spec
  k_fill
  intro p loose mean mg mb gd cn cs a₀ ccd cl outer A₀ base h₀ L m s Q E B F X N T hk hret
  k_with "getAttr ref" => ((with_reducible show wpAny _ _ (getAttr _ (Str.ofString "counter") _) _ _ _); k_dflt (refine' get_cnt ?F ?X ?N ?h1 ?h2 ?hv ?_; (case F => k_asm); (case X => k_asm); (case N => k_asm); (case h1 => k_mem); (case h2 => k_mem); (case hv => k_handed); k_whole))
  k_with "setAttr ref" => ((with_reducible show wpAny _ _ (setAttr _ (Str.ofString "counter") _) _ _ _); k_dflt (refine' set_cnt ?F ?X ?N ?h1 ?h2 ?U ?hz ?_; (case F => k_asm); (case X => k_asm); (case N => k_asm); (case h1 => k_mem); (case h2 => k_mem); (case U => k_upd); (case hz => k_asm); k_whole); intro h' F' N'; (try k_sweep))
  k_extra "MyStp"
  all_goals (try dsimp only)
  exact hret _ _ _ _ ⟨_, _, tyD w.params _ _ _ _ _ _ _ _ _ _ _ _ _ _ _ _ _ _, _, _, rfl, rfl, Abv.re (by assumption), ⟨_, _, _, _, _, _, _, _, _, _, _, _, _, _, rfl, by assumption, by assumption⟩⟩ (by k_asm) (new_led (by assumption))


theorem new0_cps {w : World} {news : Led} {TD : Addr} {t0 : Tok} {c : Int} {tc : Tok} {es : List DictEntry} {n : Nat} {form : Str} (C : Value → Led → Prop) (h9 : ∀ a d o tl tc', (Abv ((d, o) :: tl) ((TD, dictOf (⟨PyData.keyHash w.params "counter", .str "counter" t0, .int c tc⟩ :: es) n) :: news)) → (TyNew w.params a d o tl (c + 1) form .none 0) → C (.ref a) ((TD, dictOf (⟨PyData.keyHash w.params "counter", .str "counter" t0, .int (c + 1) tc'⟩ :: es) n) :: (((d, o) :: tl) ++ news))) : ∀ r nx, (∃ a d o tl tc', r = .ref a ∧ nx = (TD, dictOf (⟨PyData.keyHash w.params "counter", .str "counter" t0, .int (c + 1) tc'⟩ :: es) n) :: (((d, o) :: tl) ++ news) ∧ Abv ((d, o) :: tl) ((TD, dictOf (⟨PyData.keyHash w.params "counter", .str "counter" t0, .int c tc⟩ :: es) n) :: news) ∧ TyNew w.params a d o tl (c + 1) form .none 0) → C r nx := by
  rintro r nx ⟨y1, y2, y3, y4, y5, ⟨rfl, rfl, y6, y7⟩⟩
  exact h9 y1 y2 y3 y4 y5 y6 y7


theorem tick_tys {prog : Program} {w : World} {A : Around} {env : Env} {E : Value → Shared → Prop} {s : Shared} {Q : Flow → Shared → Prop} (h : wpAny (model prog w) A (execs [] env) Q E s) : wpAny (model prog w) A (execs [] env) Q E s := by
  first | (walk1; fail) | exact h

theorem types_led {h₀ h : Heap} {L : Addr} {t k x : Addr × Obj} {c1 c2 c3 c4 c5 c6 c7 news : Led} (N : News h₀ L h (t :: (c7 ++ (c6 ++ (c5 ++ (c4 ++ (c3 ++ (c2 ++ (c1 ++ k :: x :: news))))))))) :
    News h₀ L h (t :: k :: ((c7 ++ (c6 ++ (c5 ++ (c4 ++ (c3 ++ (c2 ++ (c1 ++ [x]))))))) ++ news)) :=
  led_drop N fun p hp => by
    simp only [List.mem_cons, List.mem_append, List.not_mem_nil, or_false] at hp ⊢
    rcases hp with h | h | (h | h | h | h | h | h | h | h) | h <;> simp [h]
theorem TyNew.ty0 {P : Params} {a d : Addr} {o : Obj} {tl : Led} {num : Int} {form : Str} {base : Value} {len : Int} (h : TyNew P a d o tl num form base len) : ∃ q, IsTy0 P ((d, o) :: tl) a num form len base q := by
  obtain ⟨ts, tn, tf, tk, size, fl, pl, hl, t6, t8, t9, t11, mo, lb, rfl, h1, _⟩ := h
  exact ⟨_, d, ts, tn, tf, tk, size, _, _, _, _, _, _, List.mem_cons_of_mem _ h1, List.mem_cons_self⟩
theorem TyNew.ty {P : Params} {a d : Addr} {o : Obj} {tl led : Led} {num : Int} {form : Str} {base : Value} {len : Int} (h : TyNew P a d o tl num form base len) (k : TK) (hk : (k.num, k.form, k.len) = (num, form, len)) (hn : k ≠ .arr) (hs : ∀ p ∈ (d, o) :: tl, p ∈ led) : IsTy P led a k := by
  obtain ⟨q, h⟩ := h.ty0
  obtain ⟨rfl, e⟩ := Prod.mk.inj hk
  obtain ⟨rfl, rfl⟩ := Prod.mk.inj e
  exact ⟨_, _, h.mono hs, fun e => absurd e hn⟩
theorem TyNew.ty1 {P : Params} {a d : Addr} {o : Obj} {tl led : Led} {num n : Int} {form : Str} {base : Value} {len : Int} (h : TyNew P a d o tl num form base len) (e : num = n) (hs : ∀ p ∈ (d, o) :: tl, p ∈ led) : ∃ q, IsTy0 P led a n form len base q := by
  subst e
  obtain ⟨q, h⟩ := h.ty0
  exact ⟨q, h.mono hs⟩
theorem types_sub {c1 c2 c3 c4 c5 c6 c7 news : Led} : ∀ p, (p ∈ c7 → p ∈ (c7 ++ (c6 ++ (c5 ++ (c4 ++ (c3 ++ (c2 ++ (c1 ++ news)))))))) ∧ (p ∈ c4 → p ∈ (c7 ++ (c6 ++ (c5 ++ (c4 ++ (c3 ++ (c2 ++ (c1 ++ news)))))))) ∧ (p ∈ c3 → p ∈ (c7 ++ (c6 ++ (c5 ++ (c4 ++ (c3 ++ (c2 ++ (c1 ++ news)))))))) ∧
    (p ∈ c2 → p ∈ (c7 ++ (c6 ++ (c5 ++ (c4 ++ (c3 ++ (c2 ++ (c1 ++ news)))))))) ∧ (p ∈ c1 → p ∈ (c7 ++ (c6 ++ (c5 ++ (c4 ++ (c3 ++ (c2 ++ (c1 ++ news)))))))) ∧ (p ∈ news → p ∈ (c7 ++ (c6 ++ (c5 ++ (c4 ++ (c3 ++ (c2 ++ (c1 ++ news)))))))) := by
  intro p
  simp only [List.mem_append]
  refine ⟨?_, ?_, ?_, ?_, ?_, ?_⟩ <;> intro h <;> simp [h]

section
theorem word_39 : True := by
  k_with "call ref@tys" => (k_here; (with_reducible show wpAny _ _ (call (Value.ref 324) _) _ _ _); k_dflt (refine' Spec.useC (new0_spec _ _ _ _ _ _ _ _ _ _ _ _ ?h1_q9 ?h2_q9 ?h3_q9 ?h4_q9 ?h5_q9) new0_cps ?k1_q9 ?k2_q9 ?k3_q9 ?k4_q9 ?k5_q9 ?k6_q9 ?k7_q9 ?k8_q9 ?_; (case k1_q9 => k_asm); (case k2_q9 => k_asm); (case k3_q9 => k_asm); (case k4_q9 => (refine' Pick.one (by assumption) ?k40_q9; (case k40_q9 => k_extra "MyPick"))); (case h1_q9 => k_extra "MyMem"); (case k5_q9 => k_asm); (case k6_q9 => first | exact rfl | assumption); (case k7_q9 => exact Nat.le_of_ble_eq_true rfl); (case k8_q9 => exact Nat.le_of_ble_eq_true rfl); (case h2_q9 => k_extra "MySep"); (case h3_q9 => omega); (case h4_q9 => omega); (case h5_q9 => simp); k_whole; intro a9 d9 o9 tl9 tc9 b9 n9 h9 tk9 F9 N9; (try k_sweep); (try dsimp only); (try k_fold)))
  trivial
 local macro_rules | `(tactic| walk_at "call ref") => `(tactic| k_extra "call ref@tys")
set_option maxRecDepth 100000 in
set_option maxHeartbeats 8000000 in
theorem types_spec (w : World) (news : Led) :
    Spec w 334 [] 900 8900 news (fun r nx => ∃ (TO TD KD : Addr) (ko : Obj) (ts : Nat → Tok) (tc : Tok) (bo ch bt it : Addr) (ma ni : Value) (no : Addr) (tl : Led), r = .ref TO ∧ nx = (TD, tysD w.params ts 7 tc (.ref KD) bo ch bt it ma ni no) :: (KD, ko) :: (tl ++ news) ∧
      Abv ((TD, ko) :: (KD, ko) :: tl) news ∧ ko.IsDictOf (intKind Challenge.rw_nu0337_01.row.prog w) [] ∧ (TO, instObj 334 TD) ∈ tl ∧ (∀ p ∈ tl, p.1 ≠ TD) ∧ (∀ p ∈ tl, p.1 ≠ KD) ∧ (@Ne Nat TD KD) ∧
      IsTy w.params tl bo .boo ∧ (∃ q, IsTy0 w.params tl ch 2 "char" 0 .none q) ∧ IsTy w.params tl bt .byt ∧ IsTy w.params tl it .int ∧ (∃ q, IsTy0 w.params tl no 7 "none" 0 .none q)) := by
  w_top off
  unfold Spec
  k_fill
  intro p loose mean mg mb gd cn cs a₀ ccd cl outer A₀ base h₀ L m s Q E B F X N T hk hret
  k_extra "MyStp"
  all_goals (try dsimp only)
  refine hret _ _ _ _ ⟨_, _, _, _, tk12 _ _ _ _ _ _ _ _ _ 0 0 0, _, _, _, _, _, _, _, _, _, rfl, rfl, ?_, by assumption, ?_, ?_, ?_, ?_, TyNew.ty (by assumption) .boo rfl (fun e => nomatch e) (fun p => (types_sub p).2.2.2.2.1), ?_,
    TyNew.ty (by assumption) .byt rfl (fun e => nomatch e) (fun p => (types_sub p).2.2.1), TyNew.ty (by assumption) .int rfl (fun e => nomatch e) (fun p => (types_sub p).2.1), ?_⟩ (by k_asm) (types_led (by assumption))
  · k_extra "MyAbv"
  · k_extra "MyMem"
  · k_extra "MySep"
  · k_extra "MySep"
  · k_extra "MyNe"
  · exact TyNew.ty1 (form := "char") (by assumption) rfl (fun p => (types_sub p).2.2.2.1)
  · exact TyNew.ty1 (form := "none") (by assumption) rfl (fun p => (types_sub p).1)
theorem types_cps {w : World} {news : Led} (C : Value → Led → Prop) (h9 : ∀ (TO TD KD : Addr) (ko : Obj) (ts : Nat → Tok) (tc : Tok) (bo ch bt it : Addr) (ma ni : Value) (no : Addr) (tl : Led), (Abv ((TD, ko) :: (KD, ko) :: tl) news) → (ko.IsDictOf (intKind Challenge.rw_nu0337_01.row.prog w) []) → ((TO, instObj 334 TD) ∈ tl) → ((∀ p ∈ tl, p.1 ≠ TD)) → ((∀ p ∈ tl, p.1 ≠ KD)) → ((@Ne Nat TD KD)) → (IsTy w.params tl bo .boo) → ∀ q, (IsTy0 w.params tl ch 2 "char" 0 .none q) → (IsTy w.params tl bt .byt) → (IsTy w.params tl it .int) → ∀ q, (IsTy0 w.params tl no 7 "none" 0 .none q) → C (.ref TO) ((TD, tysD w.params ts 7 tc (.ref KD) bo ch bt it ma ni no) :: (KD, ko) :: (tl ++ news))) : ∀ r nx, (∃ (TO TD KD : Addr) (ko : Obj) (ts : Nat → Tok) (tc : Tok) (bo ch bt it : Addr) (ma ni : Value) (no : Addr) (tl : Led), r = .ref TO ∧ nx = (TD, tysD w.params ts 7 tc (.ref KD) bo ch bt it ma ni no) :: (KD, ko) :: (tl ++ news) ∧ Abv ((TD, ko) :: (KD, ko) :: tl) news ∧ ko.IsDictOf (intKind Challenge.rw_nu0337_01.row.prog w) [] ∧ (TO, instObj 334 TD) ∈ tl ∧ (∀ p ∈ tl, p.1 ≠ TD) ∧ (∀ p ∈ tl, p.1 ≠ KD) ∧ (@Ne Nat TD KD) ∧ IsTy w.params tl bo .boo ∧ (∃ q, IsTy0 w.params tl ch 2 "char" 0 .none q) ∧ IsTy w.params tl bt .byt ∧ IsTy w.params tl it .int ∧ (∃ q, IsTy0 w.params tl no 7 "none" 0 .none q)) → C r nx := by
  rintro r nx ⟨y1, y2, y3, y4, y5, y6, y7, y8, y9, y10, y11, y12, y13, y14, ⟨rfl, rfl, y15, y16, y17, y18, y19, y20, y21, ⟨y22, y23⟩, y24, y25, ⟨y26, y27⟩⟩⟩
  exact h9 y1 y2 y3 y4 y5 y6 y7 y8 y9 y10 y11 y12 y13 y14 y15 y16 y17 y18 y19 y20 y21 y22 y23 y24 y25 y26 y27

end

theorem word_40 : True := by
  k_with "call ref" => (k_here; (with_reducible show wpAny _ _ (call (Value.ref 334) _) _ _ _); k_dflt (refine' Spec.useC (types_spec _ _) types_cps ?k1_q9 ?k2_q9 ?k3_q9 ?k4_q9 ?k5_q9 ?k6_q9 ?k7_q9 ?k8_q9 ?_; (case k1_q9 => k_asm); (case k2_q9 => k_asm); (case k3_q9 => k_asm); (case k4_q9 => k_extra "MyLed"); (case k5_q9 => k_asm); (case k6_q9 => first | exact rfl | assumption); (case k7_q9 => exact Nat.le_of_ble_eq_true rfl); (case k8_q9 => exact Nat.le_of_ble_eq_true rfl); k_whole; intro TO9 TD9 KD9 ko9 ts9 tc9 bo9 ch9 bt9 it9 ma9 ni9 no9 tl9 b9 k9 m9 y91 y92 y93 z91 q92 z92 z93 z94 q95 z95 h9 tk9 F9 N9; have u9 := Abv.hd b9; have u8 := Abv.hd (Abv.rest b9); have x9 := Abv.rest (Abv.rest b9); (try k_sweep); (try dsimp only); (try k_fold)))
  trivial

theorem tick_world {prog : Program} {w : World} {A : Around} {env : Env} {E : Value → Shared → Prop} {s : Shared} {Q : Flow → Shared → Prop} (h : wpAny (model prog w) A (execs [] env) Q E s) : wpAny (model prog w) A (execs [] env) Q E s := by
  first | (walk1; fail) | exact h

theorem UpdF.app {d : Addr} {o : Obj} {r : Led} {g : Obj → Led} (u : UpdF d o r g) : ∀ {l : Led}, (∀ p ∈ l, p.1 ≠ d) → UpdF d o (l ++ r) (fun o' => l ++ g o')
  | [], _ => u
  | p :: l, h => .tail (h p List.mem_cons_self) (UpdF.app u fun q hq => h q (.tail _ hq))
theorem word_41 : True := by
  k_with "MyNe" => first | assumption | (refine neN ?_; (try dsimp only); first | assumption | exact Ne.symm (by assumption) | exact Nat.ne_of_lt (by k_extra "MyLt1") | exact Nat.ne_of_gt (by k_extra "MyLt1") | exact ne_up (by assumption) (by k_extra "MyMem") | exact ne_dn (by assumption) (by k_extra "MyMem")) | (refine neN ?_; (try dsimp only); (repeat (rename (_ ∧ _) => l9; obtain ⟨_, _⟩ := l9)); first | exact ne_up (ktn_ltOf (by assumption)) (by k_extra "MyMem") | exact ne_dn (ktn_ltOf (by assumption)) (by k_extra "MyMem"))
  k_with "My_k_updF_40_1" => first | (refine' UpdF.head ?a_q9; (case a_q9 => k_extra "MySep")) | (refine' UpdF.tail ?a_q9 ?b_q9; (case a_q9 => k_extra "MyNe"); (case b_q9 => k_updF)) | (refine' UpdF.app ?b_q9 ?a_q9; (case a_q9 => k_extra "MySep"); (case b_q9 => k_updF))
  trivial
local macro_rules | `(tactic| k_updF) => `(tactic| k_extra "My_k_updF_40_1")

section
variable {w : World} {A : Around} {E : Value → Shared → Prop} {s : Shared} {h₀ : Heap} {L KD a : Addr} {m : Str → Option Value} {news : Led} {o : Obj} {g : Obj → Led} {n : Nat} {k1 k2 : Str} {t1 t2 : Tok} {v : Value}
/-- a dict that holds nothing, and a pair of texts as the key -/
theorem set_known {Q : Unit → Shared → Prop} (hu : A.units + 1 < cLine) (F : Fr h₀ L s.heap m) (N : News h₀ L s.heap news) (U : UpdF KD o news g) (hd : o.IsDictOf (intKind Challenge.rw_nu0337_01.row.prog w) [])
    (hka : (a, ({ cls := .type "tuple", data := .seq [Value.str k1 t1, Value.str k2 t2].toArray n } : Obj)) ∈ news)
    (h : ∀ h' o', Fr h₀ L h' m → News h₀ L h' (g o') → Q () { s with heap := h', toks := s.toks + 3 }) : wpAny (model Challenge.rw_nu0337_01.row.prog w) A (setItem (.ref KD) (.ref a) v) Q E s := by
  obtain ⟨own, rest, rfl, hg, h1, h2⟩ := U.split
  have hm : (KD, o) ∈ own ++ (KD, o) :: rest := List.mem_append_right _ List.mem_cons_self
  obtain ⟨es, ep, hc, hdat, _, hp, _⟩ := hd
  have he : es.toList = [] := List.length_eq_zero_iff.mp hp.length
  have hD : s.heap.DictOfH (tupleKind (strKind Challenge.rw_nu0337_01.row.prog w)) KD [] := ⟨o, es, ep, N.get hm, hc, hdat, he, fun _ hx => by simp at hx, List.nodup_nil⟩
  have tk : TupKeyObj (strKind Challenge.rw_nu0337_01.row.prog w) [k1, k2] ({ cls := .type "tuple", data := .seq [Value.str k1 t1, Value.str k2 t2].toArray n } : Obj) :=
    ⟨rfl, _, _, rfl, .cons (decide_eq_true rfl) (.cons (decide_eq_true rfl) .nil)⟩
  refine wpAny_setItem_heap (hsz := Nat.zero_le _) (knd := tupleKind (strKind Challenge.rw_nu0337_01.row.prog w)) (tupleKind_room_in1 hu) (tk.key (N.get hka)) hD fun h' hm' hs => ?_
  obtain ⟨o', es', ep', ho', hc', hd', he', _, hn'⟩ := hm'
  exact h h' o' (F.change hs (N _ hm).2.1 (N.fresh hm)) (hg o' ▸ N.setAt h1 h2 hs ho')
end
theorem new_lab_led {h₀ h : Heap} {L : Addr} {d t k x : Addr × Obj} {tl news : Led} (N : News h₀ L h (x :: d :: (tl ++ t :: k :: news))) : News h₀ L h (t :: d :: (tl ++ news)) :=
  led_drop N fun p hp => by
    simp only [List.mem_cons, List.mem_append] at hp ⊢
    rcases hp with h | h | h | h <;> simp [h]

set_option maxRecDepth 100000 in
set_option maxHeartbeats 8000000 in
theorem new_lab_spec (w : World) (news : Led) (TO TD KD : Addr) (ko : Obj) (ts : Nat → Tok) (c : Int) (tc : Tok) (bo ch bt it : Addr) (ma ni : Value) (no : Addr) (form : Str) (tf : Tok) (size : Value) (tm tb : Tok)
    (hT : (TO, instObj 334 TD) ∈ news) (s1 : ∀ p ∈ news, p.1 ≠ TD) (s2 : ∀ p ∈ news, p.1 ≠ KD) (s3 : @Ne Nat TD KD) (hk0 : ko.IsDictOf (intKind Challenge.rw_nu0337_01.row.prog w) []) (c1 : 0 ≤ c) (c2 : c ≤ 1000) :
    Spec w 324 [.ref TO, .str form tf, size, .str "M" tm, .str "R" tb] 920 9100 ((TD, tysD w.params ts c tc (.ref KD) bo ch bt it ma ni no) :: (KD, ko) :: news)
      (fun r nx => ∃ a d o tl tc', r = .ref a ∧ nx = (TD, tysD w.params ts (c + 1) tc' (.ref KD) bo ch bt it ma ni no) :: (d, o) :: (tl ++ news) ∧ Abv ((d, o) :: tl) ((TD, tysD w.params ts c tc (.ref KD) bo ch bt it ma ni no) :: (KD, ko) :: news) ∧ TyNew w.params a d o tl (c + 1) form .none 0) := by
  w_top off
  unfold Spec
  k_fill
  intro p loose mean mg mb gd cn cs a₀ ccd cl outer A₀ base h₀ L m s Q E B F X N T hk hret
  unfold tysD at N
  k_with "setItem ref ref" =>
    focus
      k_dflt (refine' set_known ?hu ?F ?N ?U hk0 ?hka ?_; (case hu => exact Nat.le_of_ble_eq_true rfl); (case F => k_asm); (case N => k_asm); (case U => k_updF); (case hka => k_mem); k_whole)
      intro h' o' F' N'
      (try k_sweep)
  k_extra "MyStp"
  all_goals (try dsimp only)
  exact hret _ _ _ _ ⟨_, _, tyD w.params _ _ _ _ _ _ _ _ _ _ _ _ _ _ _ _ _ _, _, _, rfl, rfl, Abv.re (by assumption), ⟨_, _, _, _, _, _, _, _, _, _, _, _, _, _, rfl, by assumption, by assumption⟩⟩ (by k_asm) (new_lab_led (by assumption))
theorem new_lab_cps {w : World} {news : Led} {TD KD : Addr} {ko : Obj} {ts : Nat → Tok} {c : Int} {tc : Tok} {bo ch bt it : Addr} {ma ni : Value} {no : Addr} {form : Str} (C : Value → Led → Prop) (h9 : ∀ a d tl tc' (tsx : Nat → Tok) (tnx tfx tkx : Tok) (szx : Value) (flx plx hlx : Addr) (t6x t8x t9x t11x : Tok) (mox lbx : Str), (Abv ((d, (tyD w.params tsx (c + 1) tnx form tfx szx .none 0 tkx flx t6x (.ref plx) mox lbx t8x t9x hlx t11x)) :: tl) ((TD, tysD w.params ts c tc (.ref KD) bo ch bt it ma ni no) :: (KD, ko) :: news)) → ((a, instObj 277 d) ∈ tl) → (∀ p ∈ tl, p.1 ≠ d) → C (.ref a) ((TD, tysD w.params ts (c + 1) tc' (.ref KD) bo ch bt it ma ni no) :: (d, (tyD w.params tsx (c + 1) tnx form tfx szx .none 0 tkx flx t6x (.ref plx) mox lbx t8x t9x hlx t11x)) :: (tl ++ news))) : ∀ r nx, (∃ a d o tl tc', r = .ref a ∧ nx = (TD, tysD w.params ts (c + 1) tc' (.ref KD) bo ch bt it ma ni no) :: (d, o) :: (tl ++ news) ∧ Abv ((d, o) :: tl) ((TD, tysD w.params ts c tc (.ref KD) bo ch bt it ma ni no) :: (KD, ko) :: news) ∧ TyNew w.params a d o tl (c + 1) form .none 0) → C r nx := by
  rintro r nx ⟨a, d, o, tl, tc', rfl, rfl, hc0, ⟨tsx, tnx, tfx, tkx, szx, flx, plx, hlx, t6x, t8x, t9x, t11x, mox, lbx, rfl, ha, hb⟩⟩
  exact h9 a d tl tc' tsx tnx tfx tkx szx flx plx hlx t6x t8x t9x t11x mox lbx hc0 ha hb


theorem word_42 : True := by
  k_with "call ref" => (k_here; (with_reducible show wpAny _ _ (call (Value.ref 324) _) _ _ _); k_dflt (refine' Spec.useC (new_lab_spec _ _ _ _ _ _ _ _ _ _ _ _ _ _ _ _ _ _ _ _ _ ?h1_q9 ?h2_q9 ?h3_q9 ?h4_q9 ?h5_q9 ?h6_q9 ?h7_q9) new_lab_cps ?k1_q9 ?k2_q9 ?k3_q9 ?k4_q9 ?k5_q9 ?k6_q9 ?k7_q9 ?k8_q9 ?_; (case k1_q9 => k_asm); (case k2_q9 => k_asm); (case k3_q9 => k_asm); (case k4_q9 => (refine' Pick.two (by assumption) ?k40_q9 ?k41_q9; (case k40_q9 => k_extra "MyPick"); (case k41_q9 => k_extra "MyPick"))); (case h1_q9 => k_extra "MyMem"); (case k5_q9 => k_asm); (case k6_q9 => first | exact rfl | assumption); (case k7_q9 => exact Nat.le_of_ble_eq_true rfl); (case k8_q9 => exact Nat.le_of_ble_eq_true rfl); (case h2_q9 => k_extra "MySep"); (case h3_q9 => k_extra "MySep"); (case h4_q9 => k_extra "MyNe"); (case h5_q9 => assumption); (case h6_q9 => omega); (case h7_q9 => omega); k_whole; intro a9 d9 tl9 tc9 ts9 tn9 tf9 tk9 sz9 fl9 pl9 hl9 t69 t89 t99 t119 mo9 lb9 b9 n9a n9b h9 tk9 F9 N9; have u9 := Abv.hd b9; have v9 := lt_head u9; have w9 := lt_tail u9; have x9 := Abv.rest b9; (try k_sweep); (try dsimp only); (try k_fold)))
  trivial
theorem world_led {h₀ h : Heap} {L : Addr} {x t d e : Addr × Obj} {tl tl1 news : Led} (N : News h₀ L h (x :: t :: d :: (tl ++ e :: (tl1 ++ news)))) : News h₀ L h (t :: ((x :: d :: (tl ++ e :: tl1)) ++ news)) :=
  led_drop N fun p hp => by
    simp only [List.mem_cons, List.mem_append] at hp ⊢
    rcases hp with h | (h | h | h | h | h) | h <;> simp [h]
theorem world_sub {x d e : Addr × Obj} {tl tl1 news : Led} : ∀ p ∈ news, p ∈ (x :: d :: (tl ++ e :: tl1)) ++ news := fun p hp => List.mem_append.mpr (.inr hp)
theorem world_m1 {x d e : Addr × Obj} {tl tl1 news : Led} : e ∈ (x :: d :: (tl ++ e :: tl1)) ++ news := by simp
theorem world_m2 {p x d e : Addr × Obj} {tl tl1 news : Led} (h : p ∈ tl1) : p ∈ (x :: d :: (tl ++ e :: tl1)) ++ news := by simp [h]
theorem world_m3 {x d e : Addr × Obj} {tl tl1 news : Led} : d ∈ (x :: d :: (tl ++ e :: tl1)) ++ news := by simp
theorem world_m4 {p x d e : Addr × Obj} {tl tl1 news : Led} (h : p ∈ tl) : p ∈ (x :: d :: (tl ++ e :: tl1)) ++ news := by simp [h]
/-- the law's six types -/
def RowsW (P : Params) (led : Led) (RW : Addr) : Prop := ∃ (vs : List Value) (nr : Nat), (RW, listOf vs.toArray nr) ∈ led ∧ vs.length = 6 ∧ ∀ i : Nat, i < 6 → ∃ (t : Addr) (k : TK), vs[i]? = some (Value.ref t) ∧ IsTy P led t k
theorem RowsW.mono {P : Params} {led led' : Led} {RW : Addr} (h : RowsW P led RW) (hs : ∀ p ∈ led, p ∈ led') : RowsW P led' RW := by
  obtain ⟨vs, nr, h1, h2, h3⟩ := h
  exact ⟨vs, nr, hs _ h1, h2, fun i hi => by obtain ⟨t, k, e, h⟩ := h3 i hi; exact ⟨t, k, e, h.mono hs⟩⟩
theorem RowsW.intro {P : Params} {led : Led} {RW : Addr} {nr : Nat} {a b c d e f : Addr} {k1 k2 k3 k4 k5 k6 : TK} (h : (RW, listOf [.ref a, .ref b, .ref c, .ref d, .ref e, .ref f].toArray nr) ∈ led)
    (h1 : IsTy P led a k1) (h2 : IsTy P led b k2) (h3 : IsTy P led c k3) (h4 : IsTy P led d k4) (h5 : IsTy P led e k5) (h6 : IsTy P led f k6) : RowsW P led RW :=
  ⟨_, nr, h, rfl, fun i hi => by
    match i, hi with
    | 0, _ => exact ⟨a, k1, rfl, h1⟩
    | 1, _ => exact ⟨b, k2, rfl, h2⟩
    | 2, _ => exact ⟨c, k3, rfl, h3⟩
    | 3, _ => exact ⟨d, k4, rfl, h4⟩
    | 4, _ => exact ⟨e, k5, rfl, h5⟩
    | 5, _ => exact ⟨f, k6, rfl, h6⟩⟩

set_option maxRecDepth 100000 in
set_option maxHeartbeats 8000000 in
theorem world_spec (w : World) (n0 news : Led) (TO TD KD : Addr) (ko : Obj) (ts : Nat → Tok) (tc : Tok) (bo ch bt it : Addr) (ma ni : Value) (no : Addr) (q : Value)
    (hT : (TO, instObj 334 TD) ∈ news) (s1 : ∀ p ∈ news, p.1 ≠ TD) (s2 : ∀ p ∈ news, p.1 ≠ KD) (s3 : @Ne Nat TD KD) (hk0 : ko.IsDictOf (intKind Challenge.rw_nu0337_01.row.prog w) [])
    (z1 : IsTy w.params n0 bo .boo) (z2 : IsTy0 w.params n0 ch 2 "char" 0 .none q) (z3 : IsTy w.params n0 bt .byt) (z4 : IsTy w.params n0 it .int) :
    Spec w 359 [.ref TO] 880 8700 ((TD, tysD w.params ts 7 tc (.ref KD) bo ch bt it ma ni no) :: (KD, ko) :: news)
      (fun r nx => ∃ RW tc' tl, r = .ref RW ∧ nx = (TD, tysD w.params ts 9 tc' (.ref KD) bo ch bt it ma ni no) :: (tl ++ news) ∧ Abv tl news ∧ (∀ p ∈ tl, p.1 ≠ TD) ∧ RowsW w.params (tl ++ n0) RW) := by
  unfold Spec
  k_fill
  intro p loose mean mg mb gd cn cs a₀ ccd cl outer A₀ base h₀ L m s Q E B F X N T hk hret
  k_extra "MyStp"
  all_goals (try dsimp only)
  refine hret _ _ _ _ ⟨_, _, _ :: _ :: (_ ++ _ :: _), rfl, rfl, ?_, ?_, ?_⟩ (by k_asm) (world_led (by assumption))
  · k_extra "MyAbv"
  · k_extra "MySep"
  · refine RowsW.intro (k1 := .int) (k2 := .chr) (k3 := .boo) (k4 := .rcd) (k5 := .arr) (k6 := .byt) (by k_extra "MyMem") (z4.mono world_sub) (IsTy.chr_of (z2.mono world_sub)) (z1.mono world_sub) ?_ ?_ (z3.mono world_sub)
    · exact ⟨_, _, ⟨_, _, _, _, _, _, _, _, _, _, _, _, world_m2 (by assumption), world_m1⟩, fun e => nomatch e⟩
    · exact ⟨_, _, ⟨_, _, _, _, _, _, _, _, _, _, _, _, world_m4 (by assumption), world_m3⟩, fun _ => ⟨_, _, _, rfl, z2.mono world_sub⟩⟩
theorem world_cps {w : World} {n0 news : Led} {TD KD : Addr} {ts : Nat → Tok} {bo ch bt it : Addr} {ma ni : Value} {no : Addr} (C : Value → Led → Prop) (h9 : ∀ RW tc' tl, (Abv tl news) → ((∀ p ∈ tl, p.1 ≠ TD)) → (RowsW w.params (tl ++ n0) RW) → C (.ref RW) ((TD, tysD w.params ts 9 tc' (.ref KD) bo ch bt it ma ni no) :: (tl ++ news))) : ∀ r nx, (∃ RW tc' tl, r = .ref RW ∧ nx = (TD, tysD w.params ts 9 tc' (.ref KD) bo ch bt it ma ni no) :: (tl ++ news) ∧ Abv tl news ∧ (∀ p ∈ tl, p.1 ≠ TD) ∧ RowsW w.params (tl ++ n0) RW) → C r nx := by
  rintro r nx ⟨y1, y2, y3, ⟨rfl, rfl, y4, y5, y6⟩⟩
  exact h9 y1 y2 y3 y4 y5 y6


theorem word_43 : True := by
  k_with "call ref" => (k_here; (with_reducible show wpAny _ _ (call (Value.ref 359) _) _ _ _); k_dflt (refine' Spec.useC (world_spec _ _ _ _ _ _ _ _ _ _ _ _ _ _ _ _ _ ?h1_q9 ?h2_q9 ?h3_q9 ?h4_q9 ?h5_q9 ?h6_q9 ?h7_q9 ?h8_q9 ?h9_q9) world_cps ?k1_q9 ?k2_q9 ?k3_q9 ?k4_q9 ?k5_q9 ?k6_q9 ?k7_q9 ?k8_q9 ?_; (case k1_q9 => k_asm); (case k2_q9 => k_asm); (case k3_q9 => k_asm); (case k4_q9 => (refine' Pick.two (by assumption) ?k40_q9 ?k41_q9; (case k40_q9 => k_extra "MyPick"); (case k41_q9 => k_extra "MyPick"))); (case h1_q9 => k_extra "MyMem"); (case h6_q9 => assumption); (case k5_q9 => k_asm); (case k6_q9 => first | exact rfl | assumption); (case k7_q9 => exact Nat.le_of_ble_eq_true rfl); (case k8_q9 => exact Nat.le_of_ble_eq_true rfl); (case h2_q9 => k_extra "MySep"); (case h3_q9 => k_extra "MySep"); (case h4_q9 => k_extra "MyNe"); (case h5_q9 => assumption); (case h7_q9 => assumption); (case h8_q9 => assumption); (case h9_q9 => assumption); k_whole; intro RW9 tc9 tl9 b9 y9 n9 h9 tk9 F9 N9; (try k_sweep); (try dsimp only); (try k_fold)))
  trivial

theorem tick_obj {prog : Program} {w : World} {A : Around} {env : Env} {E : Value → Shared → Prop} {s : Shared} {Q : Flow → Shared → Prop} (h : wpAny (model prog w) A (execs [] env) Q E s) : wpAny (model prog w) A (execs [] env) Q E s := by
  first | (walk1; fail) | exact h

def objD (P : Params) (ts : Nat → Tok) (name : Value) (kind : Str) (tk : Tok) (ty place : Value) (ro : Bool) (level module value slot offset number narrowed : Value) : Obj :=
  dictOf (objEs P ts name kind tk ty place (.bool false) ro level module value slot offset number (.bool false) narrowed) 14
def tk14 (t0 t1 t2 t3 t4 t5 t6 t7 t8 t9 t10 t11 t12 t13 : Tok) : Nat → Tok := fun i => match i with
  | 0 => t0 | 1 => t1 | 2 => t2 | 3 => t3 | 4 => t4 | 5 => t5 | 6 => t6 | 7 => t7 | 8 => t8 | 9 => t9 | 10 => t10 | 11 => t11 | 12 => t12 | _ => t13
theorem obj_led {h₀ h : Heap} {L : Addr} {a d : Addr × Obj} {news : Led} (N : News h₀ L h (a :: d :: news)) : News h₀ L h (d :: ([a] ++ news)) :=
  led_drop N fun p hp => by
    simp only [List.mem_cons, List.mem_append, List.not_mem_nil, or_false] at hp ⊢
    rcases hp with h | h | h <;> simp [h]

set_option maxRecDepth 100000 in
set_option maxHeartbeats 8000000 in
theorem obj_spec (w : World) (news : Led) (name : Str) (tn : Tok) (kind : Str) (tk : Tok) (ty : Addr) (place : Int) (tp : Tok) :
    Spec w 298 [.str name tn, .str kind tk, .ref ty, .int place tp] 960 9500 news
      (fun r nx => ∃ a d tl ts level module value slot offset number narrowed, r = .ref a ∧ nx = (d, objD w.params ts (.str name tn) kind tk (.ref ty) (.int place tp) false level module value slot offset number narrowed) :: (tl ++ news) ∧
        Abv tl news ∧ (∀ q ∈ news, @LT.lt Nat _ q.1 d) ∧ (a, instObj 298 d) ∈ tl ∧ (∀ p ∈ tl, p.1 ≠ d)) := by
  w_top off
  unfold Spec
  k_fill
  intro p loose mean mg mb gd cn cs a₀ ccd cl outer A₀ base h₀ L m s Q E B F X N T hk hret
  k_extra "MyStp"
  all_goals (try dsimp only)
  refine hret _ _ _ _ ⟨_, _, [_], tk14 _ _ _ _ _ _ _ _ _ _ _ _ _ _, _, _, _, _, _, _, _, rfl, rfl, ?_, ?_, ?_, ?_⟩ (by k_asm) (obj_led (by assumption))
  · k_extra "MyAbv"
  · k_extra "MyLt"
  · k_extra "MyMem"
  · k_extra "MySep"
theorem obj_cps {w : World} {news : Led} {name : Str} {tn : Tok} {kind : Str} {tk : Tok} {ty : Addr} {place : Int} {tp : Tok} (C : Value → Led → Prop) (h9 : ∀ a d tl ts level module value slot offset number narrowed, (Abv tl news) → ((∀ q ∈ news, @LT.lt Nat _ q.1 d)) → ((a, instObj 298 d) ∈ tl) → ((∀ p ∈ tl, p.1 ≠ d)) → C (.ref a) ((d, objD w.params ts (.str name tn) kind tk (.ref ty) (.int place tp) false level module value slot offset number narrowed) :: (tl ++ news))) : ∀ r nx, (∃ a d tl ts level module value slot offset number narrowed, r = .ref a ∧ nx = (d, objD w.params ts (.str name tn) kind tk (.ref ty) (.int place tp) false level module value slot offset number narrowed) :: (tl ++ news) ∧ Abv tl news ∧ (∀ q ∈ news, @LT.lt Nat _ q.1 d) ∧ (a, instObj 298 d) ∈ tl ∧ (∀ p ∈ tl, p.1 ≠ d)) → C r nx := by
  rintro r nx ⟨y1, y2, y3, y4, y5, y6, y7, y8, y9, y10, y11, ⟨rfl, rfl, y12, y13, y14, y15⟩⟩
  exact h9 y1 y2 y3 y4 y5 y6 y7 y8 y9 y10 y11 y12 y13 y14 y15


theorem word_44 : True := by
  k_with "call ref" => (k_here; (with_reducible show wpAny _ _ (call (Value.ref 298) _) _ _ _); k_dflt (refine' Spec.useC (obj_spec _ _ _ _ _ _ _ _ _) obj_cps ?k1_q9 ?k2_q9 ?k3_q9 ?k4_q9 ?k5_q9 ?k6_q9 ?k7_q9 ?k8_q9 ?_; (case k1_q9 => k_asm); (case k2_q9 => k_asm); (case k3_q9 => k_asm); (case k4_q9 => k_extra "MyLed"); (case k5_q9 => k_asm); (case k6_q9 => first | exact rfl | assumption); (case k7_q9 => exact Nat.le_of_ble_eq_true rfl); (case k8_q9 => exact Nat.le_of_ble_eq_true rfl); k_whole; intro a9 d9 tl9 ts9 lv9 mo9 va9 sl9 of9 nu9 na9 b9 u9 m9 y9 h9 tk9 F9 N9; (try k_sweep); (try dsimp only); (try k_fold)))
  k_with "call ref" => (k_here; (with_reducible show wpAny _ _ (call (Value.ref 352) _) _ _ _); k_dflt (refine' Spec.useC (pick_spec _ _ _ _ _ _ _ ?h1_q9 ?h2_q9 ?h3_q9 ?h4_q9 ?h5_q9) pick_cps ?k1_q9 ?k2_q9 ?k3_q9 ?k4_q9 ?k5_q9 ?k6_q9 ?k7_q9 ?k8_q9 ?_; (case k1_q9 => k_asm); (case k2_q9 => k_asm); (case k3_q9 => k_asm); (case k4_q9 => (refine' Pick.one (by assumption) ?k40_q9; (case k40_q9 => k_extra "MyPick"))); (case h1_q9 => assumption); (case k5_q9 => k_asm); (case k6_q9 => first | exact rfl | assumption); (case k7_q9 => exact Nat.le_of_ble_eq_true rfl); (case k8_q9 => exact Nat.le_of_ble_eq_true rfl); (case h2_q9 => first | assumption | exact Figs.mono (by assumption) (by k_extra "MySub")); (case h3_q9 => k_extra "MySep"); (case h4_q9 => omega); (case h5_q9 => omega); k_whole; intro v9 t9 o9 v91 v92 p9 h9 tk9 F9 N9; (try k_sweep); (try dsimp only); (try k_fold)))
  trivial

theorem tick_param {prog : Program} {w : World} {A : Around} {env : Env} {E : Value → Shared → Prop} {s : Shared} {Q : Flow → Shared → Prop} (h : wpAny (model prog w) A (execs [] env) Q E s) : wpAny (model prog w) A (execs [] env) Q E s := by
  first | (walk1; fail) | exact h

theorem row_item {prog : Program} {w : World} {A : Around} {E : Value → Shared → Prop} {s : Shared} {h₀ : Heap} {L : Addr} {news led : Led} {value slice : PySem.Expr} {l : Addr} {vs : List Value} {n : Nat} {k : Int} {u : Tok} {Q : Value → Shared → Prop} {P : Params} (N : News h₀ L s.heap news) (hm : (l, listOf vs.toArray n) ∈ news)
    (hR : ∀ i : Nat, i < 6 → ∃ (t : Addr) (k : TK), vs[i]? = some (Value.ref t) ∧ IsTy P led t k) (h0 : 0 ≤ k) (h6 : k < 6) (h : ∀ t kk, IsTy P led t kk → Q (.ref t) s)
    (hs : subscripted slice false (.ref l) (.int k u) = operate [.ref l, .int k u] (getItem (.ref l) (.int k u)) := by with_unfolding_all rfl) :
    wpAny (model prog w) A (subscriptTail value slice (.ref l) (.int k u)) Q E s := by
  obtain ⟨t, kk, e, ht⟩ := hR k.toNat (by omega)
  exact item_led N hm h0 (by omega) e (h t kk ht) hs

theorem IsObj.intro {P : Params} {news : Led} {a d : Addr} {kind : Str} {ty : Value} {ro : Bool} {ts : Nat → Tok} {tk : Tok} {name place exported level module value slot offset number isparam narrowed : Value} (h1 : (a, instObj 298 d) ∈ news)
    (h2 : (d, dictOf (objEs P ts name kind tk ty place exported ro level module value slot offset number isparam narrowed) 14) ∈ news) : IsObj P news a kind ty ro := ⟨d, ts, tk, name, place, exported, level, module, value, slot, offset, number, isparam, narrowed, h1, h2⟩
theorem param_led {h₀ h : Heap} {L : Addr} {d p : Addr × Obj} {tl news : Led} (N : News h₀ L h (d :: (tl ++ p :: news))) : News h₀ L h (p :: ((d :: tl) ++ news)) :=
  led_drop N fun p hp => by
    simp only [List.mem_cons, List.mem_append] at hp ⊢
    rcases hp with h | (h | h) | h <;> simp [h]
theorem param_led2 {h₀ h : Heap} {L : Addr} {d p l : Addr × Obj} {tl news : Led} (N : News h₀ L h (d :: (tl ++ l :: p :: news))) : News h₀ L h (p :: ((d :: tl) ++ news)) :=
  led_drop N fun p hp => by
    simp only [List.mem_cons, List.mem_append] at hp ⊢
    rcases hp with h | (h | h) | h <;> simp [h]

set_option maxRecDepth 100000 in
set_option maxHeartbeats 8000000 in
theorem param_spec (w : World) (n0 news : Led) (P FL RW : Addr) (o : Obj) (tv : Value) (hP : Pool FL o) (hF : Figs news FL) (hs : ∀ p ∈ n0, p ∈ news) (hR : RowsW w.params n0 RW) (s1 : ∀ p ∈ news, p.1 ≠ P) :
    Spec w 373 [.ref P, tv, .ref RW] 900 8900 ((P, o) :: news)
      (fun r nx => ∃ (a : Addr) (o' : Obj) (tl : Led) (t : Addr) (pd : ParD), r = .ref a ∧ nx = (P, o') :: (tl ++ news) ∧ Abv tl news ∧ (∀ p ∈ tl, p.1 ≠ P) ∧ Pool FL o' ∧ IsObj w.params tl a (kindS pd.ip) (.ref t) pd.ro ∧ IsTy w.params n0 t pd.k) := by
  w_top off
  unfold Spec
  k_fill
  intro p loose mean mg mb gd cn cs a₀ ccd cl outer A₀ base h₀ L m s Q E B F X N T hk hret
  obtain ⟨rvs, nr, r1, r2, r3⟩ := hR
  k_with "subscriptTail" =>
    (with_reducible show wpAny _ _ (subscriptTail _ _ (Value.ref _) (Value.int _ _)) _ _ _)
    focus
      k_dflt (refine' row_item ?N (news := (P, _) :: news) (List.mem_cons_of_mem _ (hs _ r1)) r3 ?h0 ?h6 ?_; (case N => k_asm); (case h0 => omega); (case h6 => omega); k_whole)
      intro ta kk hty
      k_dflt ((refine IsTy.elim (IsTy.mono hty hs) fun _ _ d8 ts8 tn8 tf8 tl8 size8 fields8 level8 module8 label8 hidden8 exno8 h81 h82 _ => ?_))
  k_extra "MyStp"
  all_goals (try dsimp only)
  all_goals (try (exfalso; omega))
  all_goals first
    | (refine hret _ _ _ _ ⟨_, _, _ :: _, _, ⟨true, _, _⟩, rfl, rfl, ?a, ?b, ?c, IsObj.intro (List.mem_cons_of_mem _ ?d) List.mem_cons_self, by assumption⟩ (by k_asm) (by first | exact param_led (by assumption) | exact param_led2 (by assumption)); (case a => k_extra "MyAbv"); (case b => k_extra "MySep"); (case c => assumption); (case d => assumption))
    | (refine hret _ _ _ _ ⟨_, _, _ :: _, _, ⟨false, _, _⟩, rfl, rfl, ?a, ?b, ?c, IsObj.intro (List.mem_cons_of_mem _ ?d) List.mem_cons_self, by assumption⟩ (by k_asm) (by first | exact param_led (by assumption) | exact param_led2 (by assumption)); (case a => k_extra "MyAbv"); (case b => k_extra "MySep"); (case c => assumption); (case d => assumption))
   

theorem param_cps {w : World} {n0 news : Led} {P FL : Addr} (C : Value → Led → Prop) (h9 : ∀ (a : Addr) (o' : Obj) (tl : Led) (t : Addr) (pd : ParD), (Abv tl news) → ((∀ p ∈ tl, p.1 ≠ P)) → (Pool FL o') → (IsObj w.params tl a (kindS pd.ip) (.ref t) pd.ro) → (IsTy w.params n0 t pd.k) → C (.ref a) ((P, o') :: (tl ++ news))) : ∀ r nx, (∃ (a : Addr) (o' : Obj) (tl : Led) (t : Addr) (pd : ParD), r = .ref a ∧ nx = (P, o') :: (tl ++ news) ∧ Abv tl news ∧ (∀ p ∈ tl, p.1 ≠ P) ∧ Pool FL o' ∧ IsObj w.params tl a (kindS pd.ip) (.ref t) pd.ro ∧ IsTy w.params n0 t pd.k) → C r nx := by
  rintro r nx ⟨y1, y2, y3, y4, y5, ⟨rfl, rfl, y6, y7, y8, y9, y10⟩⟩
  exact h9 y1 y2 y3 y4 y5 y6 y7 y8 y9 y10


theorem tick_side {prog : Program} {w : World} {A : Around} {env : Env} {E : Value → Shared → Prop} {s : Shared} {Q : Flow → Shared → Prop} (h : wpAny (model prog w) A (execs [] env) Q E s) : wpAny (model prog w) A (execs [] env) Q E s := by
  first | (walk1; fail) | exact h

theorem text_item {prog : Program} {w : World} {A : Around} {E : Value → Shared → Prop} {s : Shared} {h₀ : Heap} {L : Addr} {news : Led} {value slice : PySem.Expr} {l : Addr} {n : Nat} {k : Int} {u t1 t2 : Tok} {Q : Value → Shared → Prop} (N : News h₀ L s.heap news) (hm : (l, listOf [Value.str "a" t1, Value.str "ab" t2].toArray n) ∈ news)
    (h0 : 0 ≤ k) (h2 : k < 2) (ha : ∀ t, Q (.str "a" t) s) (hb : ∀ t, Q (.str "ab" t) s)
    (hs : subscripted slice false (.ref l) (.int k u) = operate [.ref l, .int k u] (getItem (.ref l) (.int k u)) := by with_unfolding_all rfl) :
    wpAny (model prog w) A (subscriptTail value slice (.ref l) (.int k u)) Q E s := by
  by_cases e : k = 0
  · subst e
    exact item_led N hm (by omega) (by omega) rfl (ha t1) hs
  · obtain rfl : k = 1 := by omega
    exact item_led N hm (by omega) (by omega) rfl (hb t2) hs

theorem side_led1 {h₀ h : Heap} {L : Addr} {t p l : Addr × Obj} {tl tl1 news : Led} (N : News h₀ L h (tl ++ t :: (tl1 ++ p :: l :: news))) : News h₀ L h (p :: t :: ((tl ++ (tl1 ++ [l])) ++ news)) :=
  led_drop N fun p hp => by
    simp only [List.mem_cons, List.mem_append, List.not_mem_nil, or_false] at hp ⊢
    rcases hp with h | h | (h | h | h) | h <;> simp [h]
theorem side_led3 {h₀ h : Heap} {L : Addr} {t p a b c d : Addr × Obj} {tl news : Led} (N : News h₀ L h (a :: b :: c :: d :: (tl ++ p :: t :: news))) : News h₀ L h (p :: t :: ((a :: b :: c :: d :: tl) ++ news)) :=
  led_drop N fun p hp => by
    simp only [List.mem_cons, List.mem_append, List.not_mem_nil, or_false] at hp ⊢
    rcases hp with h | h | (h | h | h | h | h) | h <;> simp [h]
theorem side_led4 {h₀ h : Heap} {L : Addr} {t p c d : Addr × Obj} {tl tl1 news : Led} (N : News h₀ L h (tl ++ c :: d :: (tl1 ++ p :: t :: news))) : News h₀ L h (p :: t :: ((tl ++ c :: d :: tl1) ++ news)) :=
  led_drop N fun p hp => by
    simp only [List.mem_cons, List.mem_append, List.not_mem_nil, or_false] at hp ⊢
    rcases hp with h | h | (h | h | h | h) | h <;> simp [h]
theorem side_s1 {l : Addr × Obj} {tl tl1 news : Led} : ∀ p ∈ tl, p ∈ (tl ++ (tl1 ++ [l])) ++ news := fun p hp => by simp [hp]
theorem side_s2 {l : Addr × Obj} {tl tl1 news : Led} : ∀ p ∈ tl1, p ∈ (tl ++ (tl1 ++ [l])) ++ news := fun p hp => by simp [hp]
theorem side_s4 {c d : Addr × Obj} {tl tl1 news : Led} : ∀ p ∈ tl, p ∈ (tl ++ c :: d :: tl1) ++ news := fun p hp => by simp [hp]
theorem side_m1 {c d : Addr × Obj} {tl tl1 news : Led} : d ∈ (tl ++ c :: d :: tl1) ++ news := by simp
theorem side_m2 {p c d : Addr × Obj} {tl tl1 news : Led} (h : p ∈ tl1) : p ∈ (tl ++ c :: d :: tl1) ++ news := by simp [h]

set_option maxRecDepth 100000 in
set_option maxHeartbeats 8000000 in
theorem side_spec (w : World) (n0 news : Led) (P FL RW TO TD : Addr) (o : Obj) (ts : Nat → Tok) (c : Int) (tc : Tok) (known : Value) (bo ch bt it : Addr) (ma ni : Value) (no : Addr) (pl : Int) (tp : Tok)
    (hT : (TO, instObj 334 TD) ∈ news) (hP : Pool FL o) (hF : Figs news FL) (hs : ∀ p ∈ n0, p ∈ news) (hR : RowsW w.params n0 RW) (s1 : ∀ p ∈ news, p.1 ≠ P) (s2 : ∀ p ∈ news, p.1 ≠ TD) (s3 : @Ne Nat P TD) (c1 : 0 ≤ c) (c2 : c ≤ 900) :
    Spec w 366 [.ref P, .ref TO, .ref RW, .int pl tp] 880 8700 ((P, o) :: (TD, tysD w.params ts c tc known bo ch bt it ma ni no) :: news)
      (fun r nx => ∃ (a : Addr) (o' : Obj) (c' : Int) (tc' : Tok) (tl : Led) (sd : SD), r = .ref a ∧ nx = (P, o') :: (TD, tysD w.params ts c' tc' known bo ch bt it ma ni no) :: (tl ++ news) ∧ Abv tl news ∧ (∀ p ∈ tl, p.1 ≠ P) ∧ (∀ p ∈ tl, p.1 ≠ TD) ∧ Pool FL o' ∧ c ≤ c' ∧ c' ≤ c + 1 ∧
        IsSide w.params (tl ++ n0) a sd pl) := by
  w_top off
  unfold Spec
  k_fill
  intro p loose mean mg mb gd cn cs a₀ ccd cl outer A₀ base h₀ L m s Q E B F X N T hk hret
  obtain ⟨rvs, nr, r1, r2, r3⟩ := hR
  k_with "subscriptTail" =>
    (with_reducible show wpAny _ _ (subscriptTail _ _ (Value.ref RW) (Value.int _ _)) _ _ _)
    focus
      k_dflt (refine' row_item ?N (news := (P, _) :: (TD, _) :: news) (List.mem_cons_of_mem _ (List.mem_cons_of_mem _ (hs _ r1))) r3 ?h0 ?h6 ?_; (case N => k_asm); (case h0 => omega); (case h6 => omega); k_whole)
      intro ta kk hty
  k_with "subscriptTail" =>
    (k_dflt (refine' text_item ?N ?hm ?h0 ?h2 ?_ ?_; (case N => k_asm); (case hm => k_mem); (case h0 => omega); (case h2 => omega); (all_goals k_whole)))
    (all_goals (intro t8))
  k_extra "MyStp"
  all_goals (try dsimp only)
  · refine hret _ _ _ _ ⟨_, _, _, _, _, .con false (c + 1), rfl, rfl, ?_, ?_, ?_, ?_, ?_, ?_, ⟨_, _, _, IsNode0.mono (by assumption) ?_, IsTy.mono (by assumption) ?_, ⟨_, rfl⟩⟩⟩ (by k_asm) (side_led1 (by assumption))
    · k_extra "MyAbv"
    · k_extra "MySep"
    · k_extra "MySep"
    · assumption
    · omega
    · omega
    · exact side_s1
    · exact side_s2
  · refine hret _ _ _ _ ⟨_, _, _, _, _, .con true (c + 1), rfl, rfl, ?_, ?_, ?_, ?_, ?_, ?_, ⟨_, _, _, IsNode0.mono (by assumption) ?_, IsTy.mono (by assumption) ?_, ⟨_, rfl⟩⟩⟩ (by k_asm) (side_led1 (by assumption))
    · k_extra "MyAbv"
    · k_extra "MySep"
    · k_extra "MySep"
    · assumption
    · omega
    · omega
    · exact side_s1
    · exact side_s2
  · rename (∀ q ∈ (P, _) :: (TD, _) :: news, @LT.lt Nat _ q.1 _) => u9
    have e1 := ltN (u9 _ List.mem_cons_self)
    have e2 := ltN (u9 _ (List.mem_cons_of_mem _ List.mem_cons_self))
    dsimp only at e1 e2
    refine hret _ _ _ _ ⟨_, _, _, _, _, .call _, rfl, rfl, ?_, ?_, ?_, ?_, ?_, ?_, ⟨_, _, _, IsNode0.intro ?_ (List.mem_cons_of_mem _ List.mem_cons_self), IsTy.mono (by assumption) ?_, trivial⟩⟩ (by k_asm) (side_led3 (by assumption))
    · k_extra "MyAbv"
    · k_extra "MySep"
    · k_extra "MySep"
    · assumption
    · omega
    · omega
    · exact List.mem_cons_self
    · exact fun p hp => List.mem_append.mpr (.inr hp)
  · refine hret _ _ _ _ ⟨_, _, _, _, _, .var _ _, rfl, rfl, ?_, ?_, ?_, ?_, ?_, ?_, ⟨_, _, _, IsNode0.mono (by assumption) ?_, IsTy.mono (by assumption) ?_, ⟨_, _, _, rfl, IsObj.intro ?_ side_m1⟩⟩⟩ (by k_asm) (side_led4 (by assumption))
    · k_extra "MyAbv"
    · k_extra "MySep"
    · k_extra "MySep"
    · assumption
    · omega
    · omega
    · exact side_s4
    · exact fun p hp => List.mem_append.mpr (.inr hp)
    · exact side_m2 (by assumption)

theorem side_cps {w : World} {n0 news : Led} {P FL TD : Addr} {ts : Nat → Tok} {c : Int} {known : Value} {bo ch bt it : Addr} {ma ni : Value} {no : Addr} {pl : Int} (C : Value → Led → Prop) (h9 : ∀ (a : Addr) (o' : Obj) (c' : Int) (tc' : Tok) (tl : Led) (sd : SD), (Abv tl news) → ((∀ p ∈ tl, p.1 ≠ P)) → ((∀ p ∈ tl, p.1 ≠ TD)) → (Pool FL o') → (c ≤ c') → (c' ≤ c + 1) → (IsSide w.params (tl ++ n0) a sd pl) → C (.ref a) ((P, o') :: (TD, tysD w.params ts c' tc' known bo ch bt it ma ni no) :: (tl ++ news))) : ∀ r nx, (∃ (a : Addr) (o' : Obj) (c' : Int) (tc' : Tok) (tl : Led) (sd : SD), r = .ref a ∧ nx = (P, o') :: (TD, tysD w.params ts c' tc' known bo ch bt it ma ni no) :: (tl ++ news) ∧ Abv tl news ∧ (∀ p ∈ tl, p.1 ≠ P) ∧ (∀ p ∈ tl, p.1 ≠ TD) ∧ Pool FL o' ∧ c ≤ c' ∧ c' ≤ c + 1 ∧ IsSide w.params (tl ++ n0) a sd pl) → C r nx := by
  rintro r nx ⟨y1, y2, y3, y4, y5, y6, ⟨rfl, rfl, y7, y8, y9, y10, y11, y12, y13⟩⟩
  exact h9 y1 y2 y3 y4 y5 y6 y7 y8 y9 y10 y11 y12 y13


theorem tick_same {prog : Program} {w : World} {A : Around} {env : Env} {E : Value → Shared → Prop} {s : Shared} {Q : Flow → Shared → Prop} (h : wpAny (model prog w) A (execs [] env) Q E s) : wpAny (model prog w) A (execs [] env) Q E s := by
  first | (walk1; fail) | exact h

set_option maxRecDepth 100000 in
set_option maxHeartbeats 8000000 in
theorem letter_spec (w : World) (news : Led) (a t : Addr) (k : TK) (sd : SD) (pl : Int) (ht : IsTy w.params news t k) (ha : IsSide w.params news a sd pl) :
    Spec w 380 [.ref a, .ref t] 920 9100 news (fun r nx => nx = news ∧ r = .bool (letterB k sd)) := by
  w_top off
  unfold Spec
  k_fill
  intro p loose mean mg mb gd cn cs a₀ ccd cl outer A₀ base h₀ L m s Q E B F X N T₀ hk hret
  refine IsSide.elim ha fun ty kids value d ts top tpl h1 h2 hty hv => ?_
  clear ha
  refine IsTy.elim ht fun _ _ d1 ts1 tn tf tl size fields level module label hidden exno h3 h4 _ => ?_
  refine IsTy.elim hty fun _ _ d2 ts2 tn2 tf2 tl2 size2 fields2 level2 module2 label2 hidden2 exno2 h5 h6 _ => ?_
  rcases sd with ⟨two, n⟩ | k' | ⟨k', ro⟩
  all_goals dsimp only [SD.op, SD.k, TK.form] at h2 h6
  · obtain ⟨tv, rfl⟩ := hv
    cases two
    all_goals simp only [conStr, Bool.false_eq_true, if_false, if_true] at h2
    all_goals k_extra "MyStp"
    all_goals ((try dsimp only); refine hret _ _ _ _ (And.intro rfl ?_) (by k_asm) (by k_extra "MyLed"))
    all_goals (first | (simp_all [letterB]; done) | (simp_all [letterB]; decide))
  all_goals k_extra "MyStp"
  all_goals ((try dsimp only); refine hret _ _ _ _ (And.intro rfl ?_) (by k_asm) (by k_extra "MyLed"))
  all_goals (first | (simp_all [letterB]; done) | rfl)
theorem letter_cps {news : Led} {k : TK} {sd : SD} (C : Value → Led → Prop) (h9 : C (.bool (letterB k sd)) (news)) : ∀ r nx, (nx = news ∧ r = .bool (letterB k sd)) → C r nx := by
  rintro r nx ⟨rfl, rfl⟩
  exact h9 

theorem word_45 : True := by
  k_with "call ref" => (k_here; (with_reducible show wpAny _ _ (call (Value.ref 380) _) _ _ _); k_dflt (refine' Spec.useC (letter_spec _ _ _ _ _ _ _ ?h1_q9 ?h2_q9) letter_cps ?k1_q9 ?k2_q9 ?k3_q9 ?k4_q9 ?k5_q9 ?k6_q9 ?k7_q9 ?k8_q9 ?_; (case k1_q9 => k_asm); (case k2_q9 => k_asm); (case k3_q9 => k_asm); (case k4_q9 => k_extra "MyLed"); (case k5_q9 => k_asm); (case k6_q9 => first | exact rfl | assumption); (case k7_q9 => exact Nat.le_of_ble_eq_true rfl); (case k8_q9 => exact Nat.le_of_ble_eq_true rfl); (case h1_q9 => k_extra "MyRel"); (case h2_q9 => k_extra "MyRel"); k_whole; intro  h9 tk9 F9 N9; (try k_sweep); (try dsimp only); (try k_fold)))
  trivial
theorem letter_of {c : CK} {k : TK} {sd : SD} (h : (c.isOk && letterB k sd) = true) : c = .ok ∧ ∃ n, sd = .con false n ∧ (k.form == "char") = true := by
  cases c <;> cases sd <;> simp_all [CK.isOk, letterB]
theorem letter_no {c : CK} {k : TK} {sd : SD} (h : (c.isOk && letterB k sd) = false) (h1 : (c.str == "") = true) (h2 : letterB k sd = true) : False := by
  rw [h2, Bool.and_true] at h
  have h3 := CK.ne_ok c
  rw [h] at h3
  simp [bne, h1] at h3

set_option maxRecDepth 100000 in
set_option maxHeartbeats 8000000 in
theorem same_spec (w : World) (news : Led) (v : Value) (a t : Addr) (k : TK) (sd : SD) (pl : Int) (c : CK) (u : Tok) (ht : IsTy w.params news t k) (ha : IsSide w.params news a sd pl) (hv : Told w.params news v a pl (c.isOk && letterB k sd)) :
    Spec w 387 [v, .ref a, .ref t, .str c.str u] 880 8700 news (fun r nx => nx = news ∧ r = .bool true) := by
  unfold Spec
  intro p loose mean mg mb gd cn cs a₀ ccd cl outer A₀ base h₀ L m s Q E B F X N T₀ hk hret
  refine IsSide.elim ha fun ty kids value d ts top tpl h1 h2 hty hsv => ?_
  refine IsTy.elim ht fun _ _ d1 ts1 tn tf tl size fields level module label hidden exno h3 h4 _ => ?_
  refine IsTy.elim hty fun _ _ d2 ts2 tn2 tf2 tl2 size2 fields2 level2 module2 label2 hidden2 exno2 h5 h6 _ => ?_
  cases e1 : (c.isOk && letterB k sd)
  · simp only [Told, e1, Bool.false_eq_true, if_false] at hv
    subst hv
    k_extra "MyStp"
    all_goals (try (exfalso; exact letter_no e1 (by assumption) (by assumption)))
    all_goals ((try dsimp only); refine hret _ _ _ _ (And.intro rfl ?_) (by k_asm) (by k_extra "MyLed"))
    all_goals (simp)
  · simp only [Told, e1, if_true] at hv
    obtain ⟨rfl, n9, rfl, e2⟩ := letter_of e1
    obtain ⟨b, cht, bk, tc, rfl, he3, he4⟩ := hv
    refine IsNode0.elim he3 fun d4 ts4 top4 tpl4 h8 h9 => ?_
    clear he3
    refine IsTy.elim he4 fun _ _ d3 ts3 tn3 tf3 tl3 size3 fields3 level3 module3 label3 hidden3 exno3 h10 h11 _ => ?_
    clear he4
    obtain ⟨tv, rfl⟩ := hsv
    dsimp only [SD.op, SD.k, TK.form] at h2 h6 h11
    simp only [conStr, Bool.false_eq_true, if_false] at h2
    have e0 : (CK.ok.str == ("" : Str)) = true := by decide
    k_extra "MyStp"
    all_goals (try (exfalso; simp_all [CK.isOk]; done))
    all_goals ((try dsimp only); refine hret _ _ _ _ (And.intro rfl ?_) (by k_asm) (by k_extra "MyLed"))
    all_goals (simp)
theorem same_cps {news : Led} (C : Value → Led → Prop) (h9 : C (.bool true) (news)) : ∀ r nx, (nx = news ∧ r = .bool true) → C r nx := by
  rintro r nx ⟨rfl, rfl⟩
  exact h9 


theorem word_46 : True := by
  k_with "call ref" => (k_here; (with_reducible show wpAny _ _ (call (Value.ref 387) _) _ _ _); k_dflt (refine' Spec.useC (same_spec _ _ _ _ _ _ _ _ _ _ ?h1_q9 ?h2_q9 ?h3_q9) same_cps ?k1_q9 ?k2_q9 ?k3_q9 ?k4_q9 ?k5_q9 ?k6_q9 ?k7_q9 ?k8_q9 ?_; (case k1_q9 => k_asm); (case k2_q9 => k_asm); (case k3_q9 => k_asm); (case k4_q9 => k_extra "MyLed"); (case k5_q9 => k_asm); (case k6_q9 => first | exact rfl | assumption); (case k7_q9 => exact Nat.le_of_ble_eq_true rfl); (case k8_q9 => exact Nat.le_of_ble_eq_true rfl); (case h1_q9 => k_extra "MyRel"); (case h2_q9 => k_extra "MyRel"); (case h3_q9 => assumption); k_whole; intro  h9 tk9 F9 N9; (try k_sweep); (try dsimp only); (try k_fold)))
  trivial


theorem off1_mem {D : Addr} : ∀ {l : Led}, LCg.Off1 D l → ∀ p ∈ l, p.1 ≠ D
  | [], _, _, h => nomatch h
  | _ :: _, x, p, h => by
    rcases List.mem_cons.mp h with rfl | h
    · exact x.1
    · exact off1_mem x.2 p h
section
variable {prog : Program} {w : World} {A : Around} {h₀ : Heap} {L : Addr} {m : Str → Option Value} {env : Env} {elt : PySem.Expr} {x : Str} {scope : Scope} {cl : List (Str × Addr)} {s : Shared} {S : Led → Prop} {Fin : Shared → List Value → Led → Prop}
/-- a comprehension over a range, by a word J of the turn's number, the list so far and the ledger -/
theorem my_comp {r : Addr} {n : Nat} {b : Int} {t u v : Tok} {news : Led} (J : Nat → List Value → Led → Prop) (hh : A.handled = none) (F : Fr h₀ L s.heap m) (N : News h₀ L s.heap news) (hr : IsRange s.heap r 0 b 1 t u v)
    (hb : b ≤ 20) (hb0 : -20 ≤ b) (hn : b.toNat = n) (hj : J 0 [] news)
    (turn : ∀ (i : Nat) (k : Tok) I oI C oC D m₂ ys nx h tk (E' : Value → Shared → Prop), i < n → J i ys nx → LCg.NsObj oC m₂ → m₂ x = some (.int (i : Int) k) → Fr h₀ L h m → News h₀ L h ((I, oI) :: (C, oC) :: (D, LCg.lst ys) :: nx) → (∀ p ∈ nx, p.1 ≠ I ∧ p.1 ≠ C ∧ p.1 ≠ D) → ((@Ne Nat I C) ∧ (@Ne Nat I D) ∧ (@Ne Nat C D)) →
      wpAny (model prog w) A (eval elt (compEnvC scope cl C env)) (fun y s₂ => ∃ h' tk' nx', s₂ = { s with heap := h', toks := tk' } ∧ Fr h₀ L h' m ∧ News h₀ L h' ((I, oI) :: (C, oC) :: (D, LCg.lst ys) :: nx') ∧ (∀ p ∈ nx', p.1 ≠ I ∧ p.1 ≠ C ∧ p.1 ≠ D) ∧ J (i + 1) (ys ++ [y]) nx') E' { s with heap := h, toks := tk })
    (fin : ∀ g ys nx, J n ys nx → Fin { s with heap := g } ys nx) : LCg.CompSrc prog w A h₀ L m env elt x scope cl Fin (.ref r) s := by
  have key : ∀ (g : Heap) (j i : Nat) (ys : List Value) (nx : Led), i + j = n → J i ys nx → LCg.CompRest prog w A h₀ L m env elt x scope cl { s with heap := g } (fun _ => True) (fun i v => ∃ t, v = .int (0 + (i : Int)) t) (Fin { s with heap := g }) j i ys nx := by
    intro g j
    induction j with
    | zero =>
      intro i ys nx hi hJ
      obtain rfl : i = n := by omega
      exact LCg.CompRest.zero (fin g ys nx hJ)
    | succ j ih =>
      intro i ys nx hi hJ
      refine LCg.CompRest.succ ?_
      intro v I oI C oC D m₂ h tk E' hv hC hx F N off ne
      obtain ⟨t, hv⟩ := hv
      rw [hv, show (0 : Int) + (i : Int) = (i : Int) by omega] at hx
      refine wpAny_mono (turn i t I oI C oC D m₂ ys nx h tk E' (by omega) hJ hC hx F N (LCg.Off3.mem off) ne) (fun y s₂ hq => ?_) fun _ _ e => e
      obtain ⟨h', tk', nx', e, F', N', off', hJ'⟩ := hq
      exact ⟨h', tk', nx', e, F', N', LCg.Off3.of off', trivial, ih (i + 1) _ _ (by omega) hJ'⟩
  exact LCg.CompSrc.range (n := n) hh F N hr (small_one (by omega) (by omega) (by omega) (by omega)) (by rw [rangeSize_one]; split <;> omega) (by rw [PySem.sizeLine_eq]; omega) fun g => key g n 0 [] news (by omega) hj
end
/-- the parameters so far -/
def ParJ (w : World) (P FL : Addr) (n0 base : Led) (i : Nat) (ys : List Value) (nx : Led) : Prop :=
  ∃ (o : Obj) (tl : Led) (ps : List ParD), nx = (P, o) :: (tl ++ base) ∧ Pool FL o ∧ Abv tl base ∧ (∀ p ∈ tl, p.1 ≠ P) ∧ Pars w.params (tl ++ n0) ys ps ∧ ps.length = i
theorem ParJ.start {w : World} {P FL : Addr} {n0 base : Led} {o : Obj} (h : Pool FL o) : ParJ w P FL n0 base 0 [] ((P, o) :: base) :=
  ⟨o, [], [], rfl, h, Abv.nil, (fun _ h => nomatch h), ⟨rfl, fun i p e => by simp at e⟩, rfl⟩
theorem Pars.snoc {P : Params} {led led' : Led} {vs : List Value} {ps : List ParD} {a t : Addr} {p : ParD} (h : Pars P led vs ps) (hs : ∀ q ∈ led, q ∈ led') (ha : IsObj P led' a (kindS p.ip) (.ref t) p.ro) (ht : IsTy P led' t p.k) : Pars P led' (vs ++ [.ref a]) (ps ++ [p]) := by
  have h' := h.mono hs
  refine ⟨by simp [h.1], fun i q e => ?_⟩
  by_cases hi : i < ps.length
  · rw [List.getElem?_append_left hi] at e
    obtain ⟨b, u, h1, h2⟩ := h'.2 i q e
    exact ⟨b, u, by rw [List.getElem?_append_left (by rw [h.1]; exact hi)]; exact h1, h2⟩
  · rw [List.getElem?_append_right (by omega)] at e
    have e0 : i - ps.length = 0 := by
      by_cases e1 : i - ps.length = 0
      · exact e1
      · rw [List.getElem?_eq_none (by simp; omega)] at e
        cases e
    rw [e0] at e
    cases e
    exact ⟨a, t, by rw [List.getElem?_append_right (by rw [h.1]; omega), h.1, e0]; rfl, ha, ht⟩
theorem Sides.snoc {P : Params} {led led' : Led} {vs : List Value} {ss : List SD} {a : Addr} {d : SD} (h : Sides P led vs ss) (hs : ∀ q ∈ led, q ∈ led') (ha : IsSide P led' a d (20 + 10 * (ss.length : Int))) : Sides P led' (vs ++ [.ref a]) (ss ++ [d]) := by
  have h' := h.mono hs
  refine ⟨by simp [h.1], fun i q e => ?_⟩
  by_cases hi : i < ss.length
  · rw [List.getElem?_append_left hi] at e
    obtain ⟨b, h1, h2⟩ := h'.2 i q e
    exact ⟨b, by rw [List.getElem?_append_left (by rw [h.1]; exact hi)]; exact h1, h2⟩
  · rw [List.getElem?_append_right (by omega)] at e
    have e0 : i - ss.length = 0 := by
      by_cases e1 : i - ss.length = 0
      · exact e1
      · rw [List.getElem?_eq_none (by simp; omega)] at e
        cases e
    rw [e0] at e
    cases e
    obtain rfl : i = ss.length := by omega
    exact ⟨a, by rw [List.getElem?_append_right (by rw [h.1]; omega), h.1, e0]; rfl, ha⟩
/-- the sides so far -/
def SideJ (w : World) (P FL TD : Addr) (ts : Nat → Tok) (c : Int) (known : Value) (bo ch bt it : Addr) (ma ni : Value) (no : Addr) (base : Led) (i : Nat) (ys : List Value) (nx : Led) : Prop :=
  ∃ (o : Obj) (c' : Int) (tc' : Tok) (tl : Led) (ss : List SD), nx = (P, o) :: (TD, tysD w.params ts c' tc' known bo ch bt it ma ni no) :: (tl ++ base) ∧ Pool FL o ∧ Abv tl base ∧ (∀ p ∈ tl, p.1 ≠ P) ∧ (∀ p ∈ tl, p.1 ≠ TD) ∧ c ≤ c' ∧ c' ≤ c + (i : Int) ∧ Sides w.params (tl ++ base) ys ss ∧ ss.length = i
theorem SideJ.start {w : World} {P FL TD : Addr} {ts : Nat → Tok} {c : Int} {tc : Tok} {known : Value} {bo ch bt it : Addr} {ma ni : Value} {no : Addr} {base : Led} {o : Obj} (h : Pool FL o) : SideJ w P FL TD ts c known bo ch bt it ma ni no base 0 [] ((P, o) :: (TD, tysD w.params ts c tc known bo ch bt it ma ni no) :: base) :=
  ⟨o, c, tc, [], [], rfl, h, Abv.nil, (fun _ h => nomatch h), (fun _ h => nomatch h), Int.le_refl _, by simp, ⟨rfl, fun i p e => by simp at e⟩, rfl⟩

section
variable {w : World} {h₀ h' : Heap} {L : Addr} {m : Str → Option Value} {P FL I C D a t : Addr} {oI oC oD o' : Obj} {tl tl9 base : Led} {s : Shared} {tk' : Nat}
theorem comp_off (hoff : ∀ p ∈ tl ++ base, p.1 ≠ I ∧ p.1 ≠ C ∧ p.1 ≠ D) (b9 : Abv tl9 ((I, oI) :: (C, oC) :: (D, oD) :: (tl ++ base))) : ∀ p ∈ (tl9 ++ tl) ++ base, p.1 ≠ I ∧ p.1 ≠ C ∧ p.1 ≠ D := fun p hp => by
  rw [List.append_assoc] at hp
  rcases List.mem_append.mp hp with hp | hp
  · exact ⟨Nat.ne_of_gt (b9 p hp (I, oI) List.mem_cons_self), Nat.ne_of_gt (b9 p hp (C, oC) (.tail _ List.mem_cons_self)), Nat.ne_of_gt (b9 p hp (D, oD) (.tail _ (.tail _ List.mem_cons_self)))⟩
  · exact hoff p hp
theorem comp_abv (b1 : Abv tl base) (b9 : Abv tl9 ((I, oI) :: (C, oC) :: (D, oD) :: (tl ++ base))) : Abv (tl9 ++ tl) base :=
  Abv.append (b9.sub fun p hp => .tail _ (.tail _ (.tail _ (List.mem_append.mpr (.inr hp))))) b1
theorem comp_sub : ∀ p ∈ tl ++ base, p ∈ (tl9 ++ tl) ++ base := fun p hp => by
  rw [List.append_assoc]; exact List.mem_append.mpr (.inr hp)
theorem comp_new : ∀ p ∈ tl9, p ∈ (tl9 ++ tl) ++ base := fun p hp => by
  rw [List.append_assoc]; exact List.mem_append.mpr (.inl hp)
theorem comp_base : ∀ p ∈ base, p ∈ (tl9 ++ tl) ++ base := fun p hp => List.mem_append.mpr (.inr hp)
theorem comp_sep {d : Addr} (y1 : ∀ p ∈ tl, p.1 ≠ d) (y9 : ∀ p ∈ tl9, p.1 ≠ d) : ∀ p ∈ tl9 ++ tl, p.1 ≠ d := fun p hp => (List.mem_append.mp hp).elim (y9 p) (y1 p)
theorem par_end {n0 : Led} {o : Obj} {ys : List Value} {ps : List ParD} {pd : ParD} (F : Fr h₀ L h' m) (N : News h₀ L h' ((P, o') :: (tl9 ++ ((I, oI) :: (C, oC) :: (D, oD) :: (tl ++ base))))) (hoff : ∀ p ∈ (P, o) :: (tl ++ base), p.1 ≠ I ∧ p.1 ≠ C ∧ p.1 ≠ D) (b1 : Abv tl base) (y1 : ∀ p ∈ tl, p.1 ≠ P) (hPs : Pars w.params (tl ++ n0) ys ps)
    (b9 : Abv tl9 ((I, oI) :: (C, oC) :: (D, oD) :: (tl ++ base))) (y9 : ∀ p ∈ tl9, p.1 ≠ P) (hP : Pool FL o') (hO : IsObj w.params tl9 a (kindS pd.ip) (.ref t) pd.ro) (hT : IsTy w.params n0 t pd.k) :
    ∃ h'' tk'' nx', ({ s with heap := h', toks := tk' } : Shared) = { s with heap := h'', toks := tk'' } ∧ Fr h₀ L h'' m ∧ News h₀ L h'' ((I, oI) :: (C, oC) :: (D, oD) :: nx') ∧ (∀ p ∈ nx', p.1 ≠ I ∧ p.1 ≠ C ∧ p.1 ≠ D) ∧ ParJ w P FL n0 base (ps.length + 1) (ys ++ [.ref a]) nx' := by
  refine ⟨h', tk', (P, o') :: ((tl9 ++ tl) ++ base), rfl, F, led_drop N ?_, ?_, ⟨o', tl9 ++ tl, ps ++ [pd], rfl, hP, comp_abv b1 b9, comp_sep y1 y9, hPs.snoc comp_sub (hO.mono comp_new) (hT.mono comp_base), by simp⟩⟩
  · intro p hp
    simp only [List.mem_cons, List.mem_append] at hp ⊢
    rcases hp with h | h | h | h | (h | h) | h <;> simp [h]
  · intro p hp
    rcases List.mem_cons.mp hp with rfl | hp
    · exact hoff (P, o) List.mem_cons_self
    · exact comp_off (fun p hp => hoff p (.tail _ hp)) b9 p hp
theorem side_end {n0 : Led} {o : Obj} {TD : Addr} {ts : Nat → Tok} {c0 c c' : Int} {tc tc' : Tok} {known : Value} {bo ch bt it : Addr} {ma ni : Value} {no : Addr} {ys : List Value} {ss : List SD} {sd : SD} (hs0 : ∀ p ∈ n0, p ∈ base) (F : Fr h₀ L h' m)
    (N : News h₀ L h' ((P, o') :: (TD, tysD w.params ts c' tc' known bo ch bt it ma ni no) :: (tl9 ++ ((I, oI) :: (C, oC) :: (D, oD) :: (tl ++ base))))) (hoff : ∀ p ∈ (P, o) :: (TD, tysD w.params ts c tc known bo ch bt it ma ni no) :: (tl ++ base), p.1 ≠ I ∧ p.1 ≠ C ∧ p.1 ≠ D) (b1 : Abv tl base) (y1 : ∀ p ∈ tl, p.1 ≠ P) (y2 : ∀ p ∈ tl, p.1 ≠ TD) (hSs : Sides w.params (tl ++ base) ys ss)
    (b9 : Abv tl9 ((I, oI) :: (C, oC) :: (D, oD) :: (tl ++ base))) (y9 : ∀ p ∈ tl9, p.1 ≠ P) (y8 : ∀ p ∈ tl9, p.1 ≠ TD) (hP : Pool FL o') (k1 : c0 ≤ c) (k2 : c ≤ c0 + (ss.length : Int)) (k3 : c ≤ c') (k4 : c' ≤ c + 1) (hS : IsSide w.params (tl9 ++ n0) a sd (20 + 10 * (ss.length : Int))) :
    ∃ h'' tk'' nx', ({ s with heap := h', toks := tk' } : Shared) = { s with heap := h'', toks := tk'' } ∧ Fr h₀ L h'' m ∧ News h₀ L h'' ((I, oI) :: (C, oC) :: (D, oD) :: nx') ∧ (∀ p ∈ nx', p.1 ≠ I ∧ p.1 ≠ C ∧ p.1 ≠ D) ∧
      SideJ w P FL TD ts c0 known bo ch bt it ma ni no base (ss.length + 1) (ys ++ [.ref a]) nx' := by
  refine ⟨h', tk', (P, o') :: (TD, tysD w.params ts c' tc' known bo ch bt it ma ni no) :: ((tl9 ++ tl) ++ base), rfl, F, led_drop N ?_, ?_, ⟨o', c', tc', tl9 ++ tl, ss ++ [sd], rfl, hP, comp_abv b1 b9, comp_sep y1 y9, comp_sep y2 y8, by omega, by simp only [Int.natCast_add]; omega, hSs.snoc comp_sub (hS.mono fun p hp => ?_), by simp⟩⟩
  · intro p hp
    simp only [List.mem_cons, List.mem_append] at hp ⊢
    rcases hp with h | h | h | h | h | (h | h) | h <;> simp [h]
  · intro p hp
    rcases List.mem_cons.mp hp with rfl | hp
    · exact hoff (P, o) List.mem_cons_self
    rcases List.mem_cons.mp hp with rfl | hp
    · exact hoff (TD, tysD w.params ts c tc known bo ch bt it ma ni no) (.tail _ List.mem_cons_self)
    · exact comp_off (fun p hp => hoff p (.tail _ (.tail _ hp))) b9 p hp
  · rcases List.mem_append.mp hp with hp | hp
    · exact comp_new p hp
    · exact comp_base p (hs0 p hp)
end
section
variable {prog : Program} {w : World} {A : Around} {h₀ : Heap} {L : Addr} {m : Str → Option Value} {env : Env} {elt : PySem.Expr} {x : Str} {scope : Scope} {cl : List (Str × Addr)} {s : Shared} {S : Led → Prop} {Fin : Shared → List Value → Led → Prop}
theorem par_comp {r P FL RW : Addr} {b : Int} {t u v : Tok} {led n0 base : Led} {o : Obj} (hh : A.handled = none) (F : Fr h₀ L s.heap m) (N : News h₀ L s.heap led) (pk : Pick P o led base) (hr : IsRange s.heap r 0 b 1 t u v) (hb : b ≤ 5) (hb0 : 0 ≤ b) (hP : Pool FL o) (hRw : RowsW w.params n0 RW)
    (turn : ∀ (i : Nat) (k : Tok) I oI C oC D m₂ ys (o : Obj) tl ps h tk (E' : Value → Shared → Prop), Pool FL o → Abv tl base → (∀ p ∈ tl, p.1 ≠ P) → Pars w.params (tl ++ n0) ys ps → ps.length = i → LCg.NsObj oC m₂ → m₂ x = some (.int (i : Int) k) → Fr h₀ L h m →
      News h₀ L h ((I, oI) :: (C, oC) :: (D, LCg.lst ys) :: (P, o) :: (tl ++ base)) → (∀ p ∈ (P, o) :: (tl ++ base), p.1 ≠ I ∧ p.1 ≠ C ∧ p.1 ≠ D) → (@Ne Nat I C) → (@Ne Nat I D) → (@Ne Nat C D) → (@Ne Nat P I) → (@Ne Nat P C) → (@Ne Nat P D) →
      wpAny (model prog w) A (eval elt (compEnvC scope cl C env)) (fun y s₂ => ∃ h' tk' nx', s₂ = { s with heap := h', toks := tk' } ∧ Fr h₀ L h' m ∧ News h₀ L h' ((I, oI) :: (C, oC) :: (D, LCg.lst ys) :: nx') ∧ (∀ p ∈ nx', p.1 ≠ I ∧ p.1 ≠ C ∧ p.1 ≠ D) ∧ ParJ w P FL n0 base (i + 1) (ys ++ [y]) nx') E' { s with heap := h, toks := tk })
    (fin : ∀ g ys o tl ps, Pool FL o → Abv tl base → (∀ p ∈ tl, p.1 ≠ P) → Pars w.params (tl ++ n0) ys ps → (ps.length : Int) = b → Fin { s with heap := g } ys ((P, o) :: (tl ++ base))) : LCg.CompSrc prog w A h₀ L m env elt x scope cl Fin (.ref r) s := by
  refine my_comp (ParJ w P FL n0 base) hh F (Pick.one N pk) hr (by omega) (by omega) rfl (ParJ.start hP) ?_ ?_
  · rintro i k I oI C oC D m₂ ys nx h tk E' _ ⟨o, tl, ps, rfl, h1, h2, h3, h4, h5⟩ hC hx F N off ⟨e1, e2, e3⟩
    have e4 := off (P, o) List.mem_cons_self
    exact turn i k I oI C oC D m₂ ys o tl ps h tk E' h1 h2 h3 h4 h5 hC hx F N off e1 e2 e3 e4.1 e4.2.1 e4.2.2
  · rintro g ys nx ⟨o, tl, ps, rfl, h1, h2, h3, h4, h5⟩
    exact fin g ys o tl ps h1 h2 h3 h4 (by omega)
theorem side_comp {r P FL TD : Addr} {b : Int} {t u v : Tok} {led base base' : Led} {o : Obj} {ts : Nat → Tok} {c : Int} {tc : Tok} {known : Value} {bo ch bt it : Addr} {ma ni : Value} {no : Addr} (hh : A.handled = none) (F : Fr h₀ L s.heap m) (N : News h₀ L s.heap led) (pk : Pick P o led base') (pk' : Pick TD (tysD w.params ts c tc known bo ch bt it ma ni no) base' base)
    (hr : IsRange s.heap r 0 b 1 t u v) (hb : b ≤ 5) (hb0 : 0 ≤ b) (hP : Pool FL o)
    (turn : ∀ (i : Nat) (k : Tok) I oI C oC D m₂ ys (o : Obj) (c' : Int) (tc' : Tok) tl (ss : List SD) h tk (E' : Value → Shared → Prop), i < 5 → Pool FL o → Abv tl base → (∀ p ∈ tl, p.1 ≠ P) → (∀ p ∈ tl, p.1 ≠ TD) → c ≤ c' → c' ≤ c + (ss.length : Int) → Sides w.params (tl ++ base) ys ss → ss.length = i → LCg.NsObj oC m₂ → m₂ x = some (.int (i : Int) k) → Fr h₀ L h m →
      News h₀ L h ((I, oI) :: (C, oC) :: (D, LCg.lst ys) :: (P, o) :: (TD, tysD w.params ts c' tc' known bo ch bt it ma ni no) :: (tl ++ base)) → (∀ p ∈ (P, o) :: (TD, tysD w.params ts c' tc' known bo ch bt it ma ni no) :: (tl ++ base), p.1 ≠ I ∧ p.1 ≠ C ∧ p.1 ≠ D) → (@Ne Nat I C) → (@Ne Nat I D) → (@Ne Nat C D) → (@Ne Nat P I) → (@Ne Nat P C) → (@Ne Nat P D) → (@Ne Nat TD I) → (@Ne Nat TD C) → (@Ne Nat TD D) →
      wpAny (model prog w) A (eval elt (compEnvC scope cl C env)) (fun y s₂ => ∃ h' tk' nx', s₂ = { s with heap := h', toks := tk' } ∧ Fr h₀ L h' m ∧ News h₀ L h' ((I, oI) :: (C, oC) :: (D, LCg.lst ys) :: nx') ∧ (∀ p ∈ nx', p.1 ≠ I ∧ p.1 ≠ C ∧ p.1 ≠ D) ∧ SideJ w P FL TD ts c known bo ch bt it ma ni no base (i + 1) (ys ++ [y]) nx') E' { s with heap := h, toks := tk })
    (fin : ∀ g ys o c' tc' tl ss, Pool FL o → Abv tl base → (∀ p ∈ tl, p.1 ≠ P) → (∀ p ∈ tl, p.1 ≠ TD) → c ≤ c' → c' ≤ c + 5 → Sides w.params (tl ++ base) ys ss → (ss.length : Int) = b → Fin { s with heap := g } ys ((P, o) :: (TD, tysD w.params ts c' tc' known bo ch bt it ma ni no) :: (tl ++ base))) : LCg.CompSrc prog w A h₀ L m env elt x scope cl Fin (.ref r) s := by
  refine my_comp (SideJ w P FL TD ts c known bo ch bt it ma ni no base) hh F (Pick.two N pk pk') hr (by omega) (by omega) rfl (SideJ.start hP) ?_ ?_
  · rintro i k I oI C oC D m₂ ys nx h tk E' hi ⟨o, c', tc', tl, ss, rfl, h1, h2, h3, h4, h5, h6, h7, h8⟩ hC hx F N off ⟨e1, e2, e3⟩
    have e4 := off (P, o) List.mem_cons_self
    have e5 := off (TD, tysD w.params ts c' tc' known bo ch bt it ma ni no) (.tail _ List.mem_cons_self)
    exact turn i k I oI C oC D m₂ ys o c' tc' tl ss h tk E' (by omega) h1 h2 h3 h4 h5 (by omega) h7 h8 hC hx F N off e1 e2 e3 e4.1 e4.2.1 e4.2.2 e5.1 e5.2.1 e5.2.2
  · rintro g ys nx ⟨o, c', tc', tl, ss, rfl, h1, h2, h3, h4, h5, h6, h7, h8⟩
    exact fin g ys o c' tc' tl ss h1 h2 h3 h4 h5 (by omega) h7 (by omega)
end



@[reducible] noncomputable def T26 : List Stmt := Subtype.val (p := fun b => B44.drop 26 = b) ⟨_, by conv => lhs; whnf⟩
@[reducible] noncomputable def T19 : List Stmt := Subtype.val (p := fun b => B44.drop 19 = b) ⟨_, by conv => lhs; whnf⟩
@[reducible] noncomputable def T17 : List Stmt := Subtype.val (p := fun b => B44.drop 17 = b) ⟨_, by conv => lhs; whnf⟩
@[reducible] noncomputable def T14 : List Stmt := Subtype.val (p := fun b => B44.drop 14 = b) ⟨_, by conv => lhs; whnf⟩
@[reducible] noncomputable def T10 : List Stmt := Subtype.val (p := fun b => B44.drop 10 = b) ⟨_, by conv => lhs; whnf⟩
@[reducible] noncomputable def T6 : List Stmt := Subtype.val (p := fun b => B44.drop 6 = b) ⟨_, by conv => lhs; whnf⟩
theorem HasTypes.of {P : Params} {news : Led} {TO TD : Addr} {ts : Nat → Tok} {c : Int} {tc : Tok} {known : Value} {bo ch bt it : Addr} {ma ni : Value} {no : Addr} (h1 : (TO, instObj 334 TD) ∈ news) (h2 : (TD, tysD P ts c tc known bo ch bt it ma ni no) ∈ news) (h3 : IsTy P news ch .chr) (h4 : IsTy P news it .int) (h5 : IsTy P news bo .boo) : HasTypes P news TO :=
  ⟨TD, ts, c, tc, known, bo, ch, bt, it, ma, ni, no, h1, h2, h3, h4, h5⟩
section
variable {w : World} {A : Around} {E : Value → Shared → Prop} {s : Shared} {h₀ : Heap} {L a b : Addr} {news n₁ n₂ : Led} {xs ys : List Value} {ka kb : Nat} {R : List (Int × Str)} {Q : Value → Shared → Prop}
def StrsOk (R : List (Int × Str)) : Prop := ∀ r ∈ R, PyData.strOk r.2 = true
theorem StrsOk.dat (h : StrsOk R) : ∀ d ∈ R.map rowD, kqdOk 8 d = true := fun d hd => by
  obtain ⟨r, hr, rfl⟩ := List.mem_map.mp hd
  simp only [rowD, kqdOk, List.all_cons, List.all_nil, Bool.and_true, Bool.true_and]
  exact h r hr
theorem rows_ne (N : News h₀ L s.heap news) (ma : (a, listOf xs.toArray ka) ∈ news) (Da : DatAll n₁ xs (R.map rowD)) (sa : ∀ p ∈ n₁, p ∈ news) (mb : (b, listOf ys.toArray kb) ∈ news) (Db : DatAll n₂ ys (R.map rowD)) (sb : ∀ p ∈ n₂, p ∈ news) (hk : StrsOk R) (hu : A.units + 64 < cLine) (h : Q (.bool false) s) :
    wpAny (model Challenge.rw_nu0337_01.row.prog w) A (compareOp .NotEq (.ref a) (.ref b)) Q E s :=
  kqd_ne N ma rfl rfl Da sa mb rfl rfl Db sb hk.dat hk.dat hu (by simpa using h)
theorem rows_eq (N : News h₀ L s.heap news) (ma : (a, listOf xs.toArray ka) ∈ news) (Da : DatAll n₁ xs (R.map rowD)) (sa : ∀ p ∈ n₁, p ∈ news) (mb : (b, listOf ys.toArray kb) ∈ news) (Db : DatAll n₂ ys (R.map rowD)) (sb : ∀ p ∈ n₂, p ∈ news) (hk : StrsOk R) (hu : A.units + 64 < cLine) (h : Q (.bool true) s) :
    wpAny (model Challenge.rw_nu0337_01.row.prog w) A (compareOp .Eq (.ref a) (.ref b)) Q E s :=
  kqd_eq N ma rfl rfl Da sa mb rfl rfl Db sb hk.dat hk.dat hu (by simpa using h)
end
theorem CK.strOk (c : CK) : PyData.strOk c.str = true := by cases c <;> decide +kernel
theorem StrsOk.nil : StrsOk [] := fun _ h => nomatch h
theorem StrsOk.one {i : Int} {x : Str} (h : PyData.strOk x = true) : StrsOk [(i, x)] := fun r hr => by rw [List.mem_singleton.mp hr]; exact h
theorem StrsOk.append {R R' : List (Int × Str)} (h : StrsOk R) (h' : StrsOk R') : StrsOk (R ++ R') := fun r hr => (List.mem_append.mp hr).elim (h r) (h' r)
theorem markR_ok (i : Int) (c : CK) : StrsOk (markR i c) := by
  unfold markR
  split
  · exact .nil
  · exact .one c.strOk
theorem asgR_ok (l r : SD) (i j : Int) : StrsOk (asgR l r i j) := by
  unfold asgR
  split
  · exact .one (by decide +kernel)
  · split
    · exact .one (by decide +kernel)
    · exact markR_ok _ _
theorem useR_ok (st nn : Bool) (np ns : Nat) : StrsOk (useR st nn np ns) := by
  unfold useR
  split
  · refine .one ?_
    unfold useS
    split
    · decide +kernel
    · split <;> decide +kernel
  · split
    · exact .nil
    · exact .one (by decide +kernel)
theorem argR_ok (ps : List ParD) (ss : List SD) : ∀ i : Nat, StrsOk (argR ps ss i)
  | 0 => .nil
  | i + 1 => (argR_ok ps ss i).append (markR_ok _ _)
theorem condR_ok (d : SD) (i : Int) : StrsOk (condR d i) := by
  unfold condR
  split
  · exact .nil
  · exact .one (by decide +kernel)
theorem word_47 : True := by
  k_with "MySteps" => repeat' (first | (k_unfold; (try dsimp only)) | (k_end; wrow_close) | (dsimp only; walk1) | walk1 | (leave1; walk_say "STEP leave1"; try dsimp only) | fail "no step")
  trivial
local macro_rules | `(tactic| walk_at "compareOp NotEq ref ref") => `(tactic| k_extra "compareOp NotEq ref ref")
local macro_rules | `(tactic| walk_at "compareOp Eq ref ref") => `(tactic| k_extra "compareOp Eq ref ref")
theorem fr5 {h₀ h : Heap} {L : Addr} {m : Str → Option Value} {x1 x2 x3 x4 x5 : Str} {v1 v2 v3 v4 v5 : Value} (F : Fr h₀ L h m) (h1 : m x1 = some v1) (h2 : m x2 = some v2) (h3 : m x3 = some v3) (h4 : m x4 = some v4) (h5 : m x5 = some v5) :
    Fr h₀ L h (fun y => if y = x1 then some v1 else if y = x2 then some v2 else if y = x3 then some v3 else if y = x4 then some v4 else if y = x5 then some v5 else m y) := by
  have e : (fun y => if y = x1 then some v1 else if y = x2 then some v2 else if y = x3 then some v3 else if y = x4 then some v4 else if y = x5 then some v5 else m y) = m := by
    funext y
    split
    · next e => rw [e, h1]
    · split
      · next e => rw [e, h2]
      · split
        · next e => rw [e, h3]
        · split
          · next e => rw [e, h4]
          · split
            · next e => rw [e, h5]
            · rfl
  rw [e]; exact F
/-- what stands between the law's parts: pool, types, rows -/
structure WS (w : World) (L P FL TO TD RW : Addr) (o : Obj) (c : Int) (bo ch it no : Addr) (n0 : Led) (o1 o2 o3 : Obj) (q : Value) : Prop where
  hP : Pool FL o
  hF : Figs n0 FL
  hTO : (TO, instObj 334 TD) ∈ n0
  hRW : RowsW w.params n0 RW
  tch : IsTy w.params n0 ch .chr
  tit : IsTy w.params n0 it .int
  tbo : IsTy w.params n0 bo .boo
  tno : IsTy0 w.params n0 no 7 "none" 0 .none q
  k1 : (L + 1, o1) ∈ n0
  d1 : o1.data = .cell (some (.ref P))
  k2 : (L + 1 + 1, o2) ∈ n0
  d2 : o2.data = .cell (some (.ref TO))
  k3 : (L + 1 + 1 + 1, o3) ∈ n0
  d3 : o3.data = .cell (some (.ref RW))
  s1 : ∀ p ∈ n0, p.1 ≠ P
  s2 : ∀ p ∈ n0, p.1 ≠ TD
  s3 : @Ne Nat P TD
  c1 : 0 ≤ c
  c2 : c ≤ 800
theorem WS.mono {w : World} {L P FL TO TD RW : Addr} {o : Obj} {c : Int} {bo ch it no : Addr} {n0 n1 : Led} {o1 o2 o3 : Obj} {q : Value} (W : WS w L P FL TO TD RW o c bo ch it no n0 o1 o2 o3 q) (hs : ∀ p ∈ n0, p ∈ n1) (h1 : ∀ p ∈ n1, p.1 ≠ P) (h2 : ∀ p ∈ n1, p.1 ≠ TD) : WS w L P FL TO TD RW o c bo ch it no n1 o1 o2 o3 q :=
  ⟨W.hP, W.hF.mono hs, hs _ W.hTO, W.hRW.mono hs, W.tch.mono hs, W.tit.mono hs, W.tbo.mono hs, W.tno.mono hs, hs _ W.k1, W.d1, hs _ W.k2, W.d2, hs _ W.k3, W.d3, h1, h2, W.s3, W.c1, W.c2⟩


theorem tick_lawc2 {prog : Program} {w : World} {A : Around} {env : Env} {E : Value → Shared → Prop} {s : Shared} {Q : Flow → Shared → Prop} (h : wpAny (model prog w) A (execs [] env) Q E s) : wpAny (model prog w) A (execs [] env) Q E s := by
  first | (walk1; fail) | exact h

section
theorem word_48 : True := by
  k_with "call ref@lawc2" => (k_here; (with_reducible show wpAny _ _ (call (Value.ref 197) _) _ _ _); k_dflt (refine' Spec.useC (condition_spec _ _ _ _ _ _ _ _ _ _ _ _ ?h1_q9 ?h2_q9 ?h3_q9 ?h4_q9 ?h5_q9 ?h6_q9) condition_cps ?k1_q9 ?k2_q9 ?k3_q9 ?k4_q9 ?k5_q9 ?k6_q9 ?k7_q9 ?k8_q9 ?_; (case k1_q9 => k_asm); (case k2_q9 => k_asm); (case k3_q9 => k_asm); (case k4_q9 => (refine' Pick.two (by assumption) ?k40_q9 ?k41_q9; (case k40_q9 => k_extra "MyPick"); (case k41_q9 => k_extra "MyPick"))); (case h3_q9 => (refine' Rows.mono ?h30_q9 ?h31_q9; (case h30_q9 => assumption); (case h31_q9 => exact List.forall_mem_nil _))); (case k5_q9 => k_asm); (case k6_q9 => first | exact rfl | assumption); (case k7_q9 => exact Nat.le_of_ble_eq_true rfl); (case k8_q9 => exact Nat.le_of_ble_eq_true rfl); (case h1_q9 => k_extra "MyRel"); (case h2_q9 => k_extra "MyRel"); (case h4_q9 => k_extra "MySep"); (case h5_q9 => k_extra "MySep"); (case h6_q9 => k_extra "MyRel"); k_whole; intro b9 tl9 vs9 n9 o9 w9 c9 h9 tk9 F9 N9; (try k_sweep); (try dsimp only); (try k_fold)))
  trivial
 local macro_rules | `(tactic| walk_at "call ref") => `(tactic| k_extra "call ref@lawc2")
theorem word_49 : True := by
  k_with "call ref@lawc2" => (k_here; (with_reducible show wpAny _ _ (call (Value.ref 387) _) _ _ _); k_dflt (refine' Spec.useC (same_spec _ _ _ _ _ _ _ _ CK.ok _ ?h1_q9 ?h2_q9 ?h3_q9) same_cps ?k1_q9 ?k2_q9 ?k3_q9 ?k4_q9 ?k5_q9 ?k6_q9 ?k7_q9 ?k8_q9 ?_; (case k1_q9 => k_asm); (case k2_q9 => k_asm); (case k3_q9 => k_asm); (case k4_q9 => k_asm); (case k5_q9 => k_asm); (case k6_q9 => first | exact rfl | assumption); (case k7_q9 => exact Nat.le_of_ble_eq_true rfl); (case k8_q9 => exact Nat.le_of_ble_eq_true rfl); (case h1_q9 => k_extra "MyRel"); (case h2_q9 => k_extra "MyRel"); (case h3_q9 => assumption); k_whole; intro  h9 tk9 F9 N9; (try k_sweep); (try dsimp only); (try k_fold)))
  trivial
set_option maxRecDepth 100000 in
set_option maxHeartbeats 4000000 in
theorem law_c2 {w : World} {fa : Addr} {cd : Value} {p : Program} {loose : List Str} {mean : ExcName → Option Value} {mg mb : Str → Option Value} {h₀ : Heap} {L : Addr} {m : Str → Option Value} {n1 : Led} {o2 : Obj} {TO EO RL PD TN KL l r DL : Addr} {x : Value} {rvs dvs : List Value} {nr nk nd : Nat} {sl sr : SD}
    {s : Shared} {Q : Flow → Shared → Prop} {E : Value → Shared → Prop}
    (B : Below callerA h₀ [] h₀) (F : Fr h₀ L s.heap (fun y => if y = Str.ofString "left" then some (.ref l) else if y = Str.ofString "right" then some (.ref r) else if y = Str.ofString "errors" then some (.ref EO) else if y = Str.ofString "told" then some (.ref TN) else if y = Str.ofString "due" then some (.ref DL) else m y))
    (X : (KK w.params).In h₀) (N : News h₀ L s.heap n1) (T : Top p loose mean mg mb h₀)
    (k2 : (L + 1 + 1, o2) ∈ n1) (d2 : o2.data = .cell (some (.ref TO))) (hT : HasTypes w.params n1 TO) (hE : IsErr w.params n1 EO RL PD) (hRL : (RL, listOf rvs.toArray nr) ∈ n1) (hRd : DatAll n1 rvs ((asgR sl sr 40 45).map rowD))
    (hDL : (DL, listOf dvs.toArray nd) ∈ n1) (hDd : DatAll n1 dvs ((asgR sl sr 40 45).map rowD)) (hTN : IsNode0 w.params n1 TN "assign" 45 .none (.ref KL) .none) (hKL : (KL, listOf [.ref l, x].toArray nk) ∈ n1) (hTo : Told w.params n1 x r 50 (CK.ok.isOk && letterB sl.k sr)) (hl : IsSide w.params n1 l sl 40) (hr : IsSide w.params n1 r sr 50)
    (hret : ∀ h' tk', (∀ b o, h₀.get? b = some o → h'.get? b = some o) → Q (.ret (.bool true)) { s with heap := h', toks := tk' }) :
    wpAny (model Challenge.rw_nu0337_01.row.prog w) (callerA.deeper (envOfC "law" S44 L fa cd)) (execs T26 (envOfC "law" S44 L fa cd)) Q E s := by
  w_top off
  revert X
  k_fill
  intro X
  refine IsErr.elim hE fun ed ets e1 e2 e3 e4 => ?_
  refine IsNode0.elim hTN fun td tts ttop ttp t1 t2 => ?_
  refine IsSide.elim hl fun lty lk lv ld lts ltop ltp l1 l2 hlt hlv => ?_
  refine IsTy.elim hlt fun _ _ lq lqs ln lf ltl lsz lfi lle lmo lla lhi lex l3 l4 _ => ?_
  refine HasTypes.elim hT fun TD tys c tc known bo ch bt it ma ni no y1 y2 y3 y4 y5 => ?_
  k_with "compareOp NotEq ref ref" =>
    focus
      k_dflt (refine' rows_ne ?N hRL hRd (fun _ h => h) hDL hDd (fun _ h => h) (asgR_ok _ _ _ _) ?hu ?_; (case N => k_asm); (case hu => exact Nat.le_of_ble_eq_true rfl); k_whole)
  k_with "subscriptTail" =>
    (with_reducible show wpAny _ _ (subscriptTail _ _ (Value.ref KL) (Value.int _ _)) _ _ _)
    focus
      k_dflt (refine' item_led ?k1 hKL ?k3 ?k4 ?k5 ?_; (case k1 => k_asm); (case k3 => decide); (case k4 => decide); (case k5 => exact rfl); k_whole)
  k_with "compareOp Eq ref ref" =>
    focus
      (rename Rows _ _ _ _ _ => w9)
      (rename ite _ _ _ => c9)
      first
        | (have e9 : (sl.k.form == ("boolean" : Str)) = true := by assumption)
          (simp only [condR, e9, if_true] at w9 c9)
          (subst c9)
          k_dflt (refine' rows_eq (R := []) ?N ?ma w9.1 ?sa ?mb .nil ?sb .nil ?hu ?_; (case N => k_asm); (case ma => k_mem); (case sa => k_extra "MySub"); (case mb => k_mem); (case sb => exact fun _ h => h); (case hu => exact Nat.le_of_ble_eq_true rfl); k_whole)
        | (have e9 : (sl.k.form == ("boolean" : Str)) = false := by assumption)
          (simp only [condR, e9, Bool.false_eq_true, if_false] at w9 c9)
          k_dflt ((obtain ⟨cbo, ckids, cx, he5, he6⟩ := c9); (refine IsNode0.elim he5 fun cd9 cts ctop ctp cc1 cc2 => ?_); (clear he5); (refine IsTy.elim he6 fun _ _ cq cqs cqn cqf cql cqsz cqfi cqle cqmo cqla cqhi cqex cc3 cc4 _ => ?_); (clear he6))
          k_dflt (refine' rows_eq (R := [(40, "not_boolean")]) ?N ?ma w9.1 ?sa ?mb ?db ?sb ?ok ?hu ?_; (case N => k_asm); (case ma => k_mem); (case sa => k_extra "MySub"); (case mb => k_mem); (case sb => exact fun _ h => h); (case db => kqd_all); (case ok => exact StrsOk.one (by decide +kernel)); (case hu => exact Nat.le_of_ble_eq_true rfl); k_whole)
  k_extra "MySteps"
  all_goals first
    | (rw [show (sl.op == sl.op) = true from beq_self_eq_true _]; exact hret _ _ (Fr.keep (by k_asm)))
    | exact hret _ _ (Fr.keep (by k_asm))
   
end


theorem tick_lawc1 {prog : Program} {w : World} {A : Around} {env : Env} {E : Value → Shared → Prop} {s : Shared} {Q : Flow → Shared → Prop} (h : wpAny (model prog w) A (execs [] env) Q E s) : wpAny (model prog w) A (execs [] env) Q E s := by
  first | (walk1; fail) | exact h

theorem dd_nv {l r : SD} {i j : Int} {n1 : Led} {dvs : List Value} (h : l.isVar = false) (hd : DatAll n1 dvs ([(i, ("not_a_variable" : Str))].map rowD)) : DatAll n1 dvs ((asgR l r i j).map rowD) := by
  rw [asgR, if_pos h]; exact hd
theorem dd_ro {l r : SD} {i j : Int} {n1 : Led} {dvs : List Value} (h : l.isVar = true) (h2 : l.ro = true) (hd : DatAll n1 dvs ([(i, ("read_only" : Str))].map rowD)) : DatAll n1 dvs ((asgR l r i j).map rowD) := by
  rw [asgR, if_neg (by rw [h]; decide), if_pos h2]; exact hd
theorem dd_bad {l r : SD} {i j : Int} {n1 : Led} {dvs : List Value} (h : l.isVar = true) (h2 : l.ro = false) (h3 : ((asgC l.k r.k).str != "") = true) (hd : DatAll n1 dvs ([(j, (asgC l.k r.k).str)].map rowD)) : DatAll n1 dvs ((asgR l r i j).map rowD) := by
  have e := CK.ne_ok (asgC l.k r.k)
  rw [h3] at e
  rw [asgR, if_neg (by rw [h]; decide), if_neg (by rw [h2]; decide), markR, if_neg (by rw [show (asgC l.k r.k).isOk = false by simpa using e.symm]; decide)]; exact hd
theorem dd_fine {l r : SD} {i j : Int} {n1 : Led} (h : l.isVar = true) (h2 : l.ro = false) (h3 : ((asgC l.k r.k).str != "") = false) : DatAll n1 [] ((asgR l r i j).map rowD) := by
  have e := CK.ne_ok (asgC l.k r.k)
  rw [h3] at e
  rw [asgR, if_neg (by rw [h]; decide), if_neg (by rw [h2]; decide), markR, if_pos (by simpa using e.symm)]; exact .nil

theorem word_50 : True := by
  k_with "MyRowDat" => (simp only [List.map_cons, List.map_nil, rowD]; kqd_all)
  k_with "LawC2" => (rename Rows _ _ _ _ (asgR _ _ _ _) => w9; (k_dflt (refine' law_c2 ?B_q9 ?F_q9 ?X_q9 ?N_q9 ?T_q9 ?k2_q9 ?d2_q9 ?hT_q9 ?hE_q9 ?hRL_q9 ?hRd_q9 ?hDL_q9 ?hDd_q9 ?hTN_q9 ?hKL_q9 ?hTo_q9 ?hl_q9 ?hr_q9 ?_; (case B_q9 => k_asm); (case F_q9 => (refine' fr5 ?f0_q9 ?f1_q9 ?f2_q9 ?f3_q9 ?f4_q9 ?f5_q9; (case f0_q9 => k_asm); (case f1_q9 => exact rfl); (case f2_q9 => exact rfl); (case f3_q9 => exact rfl); (case f4_q9 => exact rfl); (case f5_q9 => exact rfl))); (case X_q9 => k_asm); (case N_q9 => k_asm); (case T_q9 => k_asm); (case k2_q9 => k_extra "MyMem"); (case d2_q9 => assumption); (case hT_q9 => exact HasTypes.of (by k_extra "MyMem") (by k_extra "MyMem") (by k_extra "MyRel") (by k_extra "MyRel") (by k_extra "MyRel")); (case hE_q9 => k_extra "MyRel"); (case hRL_q9 => k_extra "MyMem"); (case hRd_q9 => exact w9.1.mono (by k_extra "MySub")); (case hDL_q9 => k_extra "MyMem"); (case hDd_q9 => first | (refine dd_nv rfl ?_; k_extra "MyRowDat") | (refine dd_ro rfl rfl ?_; k_extra "MyRowDat") | (refine dd_bad rfl rfl (by assumption) ?_; k_extra "MyRowDat") | exact dd_fine rfl rfl (by assumption)); (case hTN_q9 => k_extra "MyRel"); (case hKL_q9 => k_extra "MyMem"); (case hTo_q9 => exact Told.mono (by assumption) (by k_extra "MySub")); (case hl_q9 => k_extra "MyRel"); (case hr_q9 => k_extra "MyRel"))))
  trivial
section
theorem word_51 : True := by
  k_with "call ref@lawc1" => (k_here; (with_reducible show wpAny _ _ (call (Value.ref 190) _) _ _ _); k_dflt (refine' Spec.useC (assignment_spec _ _ _ _ _ _ _ _ _ _ _ _ _ _ _ _ _ ?h1_q9 ?h2_q9 ?h3_q9 ?h4_q9 ?h5_q9 ?h6_q9 ?h7_q9) assignment_cps ?k1_q9 ?k2_q9 ?k3_q9 ?k4_q9 ?k5_q9 ?k6_q9 ?k7_q9 ?k8_q9 ?_; (case k1_q9 => k_asm); (case k2_q9 => k_asm); (case k3_q9 => k_asm); (case k4_q9 => (refine' Pick.two (by assumption) ?k40_q9 ?k41_q9; (case k40_q9 => k_extra "MyPick"); (case k41_q9 => k_extra "MyPick"))); (case h3_q9 => (refine' Rows.mono ?h30_q9 ?h31_q9; (case h30_q9 => assumption); (case h31_q9 => exact List.forall_mem_nil _))); (case k5_q9 => k_asm); (case k6_q9 => first | exact rfl | assumption); (case k7_q9 => exact Nat.le_of_ble_eq_true rfl); (case k8_q9 => exact Nat.le_of_ble_eq_true rfl); (case h1_q9 => (exact HasTypes.of (by k_extra "MyMem") (by k_extra "MyMem") (by k_extra "MyRel") (by k_extra "MyRel") (by k_extra "MyRel"))); (case h2_q9 => k_extra "MyRel"); (case h4_q9 => k_extra "MySep"); (case h5_q9 => k_extra "MySep"); (case h6_q9 => k_extra "MyRel"); (case h7_q9 => k_extra "MyRel"); k_whole; intro a9 tl9 vs9 n9 o9 KL9 x9 nk9 b9 w9 a91 k9 t9 h9 tk9 F9 N9; (try k_sweep); (try dsimp only); (try k_fold)))
  trivial
 local macro_rules | `(tactic| walk_at "call ref") => `(tactic| k_extra "call ref@lawc1")
set_option maxRecDepth 100000 in
set_option maxHeartbeats 4000000 in
theorem law_c1 {w : World} {fa : Addr} {cd : Value} {p : Program} {loose : List Str} {mean : ExcName → Option Value} {mg mb : Str → Option Value} {h₀ : Heap} {L : Addr} {m : Str → Option Value} {n0 : Led} {P FL TO TD RW : Addr} {o o1 o2 o3 : Obj} {ts : Nat → Tok} {c : Int} {tc : Tok} {known : Value} {bo ch bt it : Addr} {ma ni : Value} {no : Addr} {q : Value}
    {s : Shared} {Q : Flow → Shared → Prop} {E : Value → Shared → Prop}
    (B : Below callerA h₀ [] h₀) (F : Fr h₀ L s.heap m) (X : (KK w.params).In h₀) (N : News h₀ L s.heap ((P, o) :: (TD, tysD w.params ts c tc known bo ch bt it ma ni no) :: n0)) (T : Top p loose mean mg mb h₀)
    (W : WS w L P FL TO TD RW o c bo ch it no n0 o1 o2 o3 q)
    (hret : ∀ h' tk', (∀ b o, h₀.get? b = some o → h'.get? b = some o) → Q (.ret (.bool true)) { s with heap := h', toks := tk' }) :
    wpAny (model Challenge.rw_nu0337_01.row.prog w) (callerA.deeper (envOfC "law" S44 L fa cd)) (execs T19 (envOfC "law" S44 L fa cd)) Q E s := by
  w_top off
  revert X
  k_fill
  intro X
  obtain ⟨hP, hF, hTO, hRW, tch, tit, tbo, tno, k1, d1, k2, d2, k3, d3, s1, s2, s3, c1, c2⟩ := W
  k_with "call ref" =>
    (with_reducible show wpAny _ _ (call (Value.ref 366) [_, _, _, Value.int 40 _]) _ _ _)
    focus
      k_dflt (refine' Spec.useC (side_spec w n0 n0 P FL RW TO TD _ _ _ _ _ _ _ _ _ _ _ _ _ _ hTO hP hF (fun _ h => h) hRW s1 s2 s3 c1 ?h10) side_cps ?k1 ?k2 ?k3 ?k4 ?k5 ?k6 ?k7 ?k8 ?_; (case k1 => k_asm); (case k2 => k_asm); (case k3 => k_asm); (case k4 => k_asm); (case k5 => k_asm); (case k6 => exact rfl); (case k7 => exact Nat.le_of_ble_eq_true rfl); (case k8 => exact Nat.le_of_ble_eq_true rfl); (case h10 => omega); k_whole)
      intro l oa ca tca tla sl ba ya ya2 pa ka ka2 hl h9 tk9 F9 N9
      (try k_sweep); (try dsimp only); (try k_fold)
  k_with "call ref" =>
    (with_reducible show wpAny _ _ (call (Value.ref 366) [_, _, _, Value.int 50 _]) _ _ _)
    focus
      k_dflt (refine' Spec.useC (side_spec w n0 (tla ++ n0) P FL RW TO TD _ _ _ _ _ _ _ _ _ _ _ _ _ _ ?h1 pa ?h3 ?h4 hRW ?h6 ?h7 s3 ?h9 ?h10) side_cps ?k1 ?k2 ?k3 ?k4 ?k5 ?k6 ?k7 ?k8 ?_; (case k1 => k_asm); (case k2 => k_asm); (case k3 => k_asm); (case k4 => k_asm); (case k5 => k_asm); (case k6 => exact rfl); (case k7 => exact Nat.le_of_ble_eq_true rfl); (case k8 => exact Nat.le_of_ble_eq_true rfl); (case h1 => k_extra "MyMem"); (case h3 => exact Figs.mono hF (by k_extra "MySub")); (case h4 => k_extra "MySub"); (case h6 => k_extra "MySep"); (case h7 => k_extra "MySep"); (case h9 => omega); (case h10 => omega); k_whole)
      intro r ob cb tcb tlb sr bb yb yb2 pb kb kb2 hr h9 tk9 F9 N9
      (try k_sweep); (try dsimp only); (try k_fold)
  k_with "exec If" =>
    (k_dflt ((refine IsSide.elim hl fun lty lk lv ld lts ltop ltp l1 l2 hlt hlv => ?_)))
    (k_dflt ((refine IsTy.elim hlt fun _ _ lq lqs ln lf ltl lsz lfi lle lmo lla lhi lex l3 l4 _ => ?_)))
    (rcases sl with ⟨two, nn⟩ | k9 | ⟨k9, ro9⟩)
    (all_goals (try dsimp only [SD.op] at l2))
    (rotate_left; rotate_left)
    (k_dflt ((obtain ⟨od, ok, oy, rfl, he7⟩ := hlv); (refine IsObj.elim he7 fun oq ots otk on op oe ole omo ova osl oof onu ois ona l5 l6 => ?_); (clear he7)))
    (cases ro9)
  k_with "execs cons" =>
    (with_reducible show wpAny _ _ (execs T26 _) _ _ _)
    focus
      k_extra "LawC2"
      exact fun h' tk' k => hret h' tk' k
  k_extra "MySteps"
end


theorem tick_lawbu {prog : Program} {w : World} {A : Around} {env : Env} {E : Value → Shared → Prop} {s : Shared} {Q : Flow → Shared → Prop} (h : wpAny (model prog w) A (execs [] env) Q E s) : wpAny (model prog w) A (execs [] env) Q E s := by
  first | (walk1; fail) | exact h

theorem word_52 : True := by
  k_with "MyPick" => first | assumption | exact Pick.head | (apply Pick.tail; k_extra "MyPick") | (apply Pick.app; k_extra "MyPick")
  trivial
section
theorem word_53 : True := by
  k_with "LawC1" => (k_dflt (refine' law_c1 ?B_q9 ?F_q9 ?X_q9 ?N_q9 ?T_q9 (WS.mono ?w1_q9 ?w2_q9 ?w3_q9 ?w4_q9) ?_; (case B_q9 => k_asm); (case F_q9 => k_asm); (case X_q9 => k_asm); (case w1_q9 => assumption); (case N_q9 => (refine' Pick.two (by assumption) ?k40_q9 ?k41_q9; (case k40_q9 => k_extra "MyPick"); (case k41_q9 => k_extra "MyPick"))); (case T_q9 => k_asm); (case w2_q9 => k_extra "MySub"); (case w3_q9 => k_extra "MySep"); (case w4_q9 => k_extra "MySep")))
  trivial
set_option maxRecDepth 100000 in
set_option maxHeartbeats 4000000 in
theorem law_bu {w : World} {fa : Addr} {cd : Value} {p : Program} {loose : List Str} {mean : ExcName → Option Value} {mg mb : Str → Option Value} {h₀ : Heap} {L : Addr} {m : Str → Option Value} {n0 : Led} {P FL TO TD RW : Addr} {o o1 o2 o3 : Obj} {ts : Nat → Tok} {c : Int} {tc : Tok} {known : Value} {bo ch bt it : Addr} {ma ni : Value} {no : Addr} {q : Value}
    {EO RL PD TN : Addr} {rvs : List Value} {nr : Nat} {ty kids v : Value} {st : Bool} {s : Shared} {Q : Flow → Shared → Prop} {E : Value → Shared → Prop}
    (B : Below callerA h₀ [] h₀) (F : Fr h₀ L s.heap (fun y => if y = Str.ofString "known_x" then some (.bool false) else if y = Str.ofString "as_statement" then some (.bool st) else if y = Str.ofString "errors" then some (.ref EO) else if y = Str.ofString "told" then some (.ref TN) else m y)) (X : (KK w.params).In h₀) {n1 r1 : Led} (N : News h₀ L s.heap n1) (pk1 : Pick P o n1 r1) (pk2 : Pick TD (tysD w.params ts c tc known bo ch bt it ma ni no) r1 n0) (T : Top p loose mean mg mb h₀)
    (W : WS w L P FL TO TD RW o c bo ch it no n0 o1 o2 o3 q) (hE : IsErr w.params n1 EO RL PD) (hRL : (RL, listOf rvs.toArray nr) ∈ n1) (hRd : DatAll n1 rvs ([((5 : Int), ("not_a_procedure" : Str))].map rowD)) (hTN : IsNode0 w.params n1 TN (npS st) 9 ty kids v)
    (hret : ∀ h' tk', (∀ b o, h₀.get? b = some o → h'.get? b = some o) → Q (.ret (.bool true)) { s with heap := h', toks := tk' }) :
    wpAny (model Challenge.rw_nu0337_01.row.prog w) (callerA.deeper (envOfC "law" S44 L fa cd)) (execs T14 (envOfC "law" S44 L fa cd)) Q E s := by
  w_top off
  revert X
  k_fill
  intro X
  have m1 : (P, o) ∈ n1 := pk1.mem _ List.mem_cons_self
  have m2 : (TD, tysD w.params ts c tc known bo ch bt it ma ni no) ∈ n1 := pk1.mem _ (.tail _ (pk2.mem _ List.mem_cons_self))
  have m3 : ∀ p ∈ n0, p ∈ n1 := fun p hp => pk1.mem _ (.tail _ (pk2.mem _ (.tail _ hp)))
  refine IsErr.elim hE fun ed ets e1 e2 e3 e4 => ?_
  refine IsNode0.elim hTN fun td tts ttop ttp t1 t2 => ?_
  have s1 := W.s1
  have s2 := W.s2
  have s3 := W.s3
  k_with "compareOp NotEq ref ref" =>
    focus
      k_dflt (refine' rows_ne (R := [(5, "not_a_procedure")]) ?N ?mc hRd ?sc ?md ?dd ?sd ?ok ?hu ?_; (case N => k_asm); (case mc => k_mem); (case sc => k_extra "MySub"); (case md => k_mem); (case sd => exact fun _ h => h); (case dd => kqd_all); (case ok => exact StrsOk.one (by decide +kernel)); (case hu => exact Nat.le_of_ble_eq_true rfl); k_whole)
  k_with "execs cons" =>
    (with_reducible show wpAny _ _ (execs T19 _) _ _ _)
    focus
      k_extra "LawC1"
      exact fun h' tk' k => hret h' tk' k
  cases st
  all_goals dsimp only [npS, Bool.false_eq_true, if_false, if_true] at t2
  all_goals k_extra "MySteps"
end


theorem tick_lawbk2 {prog : Program} {w : World} {A : Around} {env : Env} {E : Value → Shared → Prop} {s : Shared} {Q : Flow → Shared → Prop} (h : wpAny (model prog w) A (execs [] env) Q E s) : wpAny (model prog w) A (execs [] env) Q E s := by
  first | (walk1; fail) | exact h

section
variable {prog : Program} {w : World} {A : Around} {E : Value → Shared → Prop} {s : Shared} {env : Env} {h₀ : Heap} {x : Str} {body : List Stmt} {Q : Flow → Shared → Prop}
def RoJ (m₀ : Str → Option Value) (x : Str) (led : Led) (m' : Str → Option Value) (nx' : Led) : Prop := (∀ y, y ≠ x → m' y = m₀ y) ∧ nx' = led
/-- a for over a range that changes nothing -/
theorem ro_loop {r : Addr} {b : Int} {t₀ u₀ v₀ : Tok} {n : Nat} {m₀ : Str → Option Value} {led : Led} (hh : A.handled = none) (hr : IsRange s.heap r 0 b 1 t₀ u₀ v₀) (hb : b = (n : Int)) (hc : n ≤ 10) (F : Fr h₀ env.locals s.heap m₀) (N : News h₀ env.locals s.heap led)
    (turn : ∀ (i : Nat) t h tk own, i < n → TbOff own led → Fr h₀ env.locals h (fun y => if y = x then some (.int (i : Int) t) else m₀ y) → News h₀ env.locals h (led ++ own) →
      wpAny (model prog w) A (execs body env) (TbPost h₀ env.locals (RoJ m₀ x led) own { s with heap := h, toks := tk } Q) E { s with heap := h, toks := tk })
    (done : ∀ (u : Str → Option Value) h tk, Fr h₀ env.locals h (fun y => if y = x then u y else m₀ y) → News h₀ env.locals h led → Q .next { s with heap := h, toks := tk }) :
    wpAny (model prog w) A (pyIter (.ref r)) (fun it s₂ => LoopAtV prog w A h₀ env x body Q E it s₂) E s := by
  subst hb
  refine my_range (n := n) (fun _ nx => nx = led) hh hr (small_one (by omega) (by omega) (by omega) (by omega)) (by rw [rangeSize_one]; split <;> omega) F N rfl ?_ ?_
  · rintro i t nx h tk own hi hoff rfl F₁ N₁
    rw [show (0 : Int) + (i : Int) = (i : Int) by omega] at F₁
    exact turn i t h tk own hi hoff F₁ N₁
  · rintro u nx h tk rfl F₁ N₁
    exact done u h tk F₁ N₁
end
theorem ro_end {x : Str} {h₀ : Heap} {L : Addr} {m₀ m' : Str → Option Value} {h' : Heap} {tk : Nat} {s₁ : Shared} {led own : Led} (hoff : TbOff own led) (F : Fr h₀ L h' m') (N : News h₀ L h' (led ++ own)) (hm : ∀ y, y ≠ x → m' y = m₀ y) : TbEnd h₀ L (RoJ m₀ x led) own s₁ { s₁ with heap := h', toks := tk } :=
  ⟨h', tk, m', _, led, rfl, F, N, fun p hp => List.mem_append.mpr (.inl hp), fun p hp => List.mem_append.mpr (.inr hp), hoff, hm, rfl⟩
/-- the codes so far -/
def Codes (cvs : List Value) (ps : List ParD) (ss : List SD) (n : Nat) : Prop := cvs.length = n ∧ ∀ i : Nat, i < n → ∃ t, cvs[i]? = some (.str (codeAt ps ss i).str t)
def ToldOk (w : World) (led : Led) (TN bs D : Addr) (svs : List Value) (ps : List ParD) (ss : List SD) (st nn : Bool) : Prop :=
  if st = false ∧ nn = true then ∃ ty kids v, IsNode0 w.params led TN "const" 9 (.ref ty) kids v
  else ∃ KL kvs nk, IsNode0 w.params led TN "call" 9 (if st then .none else .ref bs) (.ref KL) .none ∧ (KL, listOf kvs.toArray nk) ∈ led ∧ Kids w.params led D kvs svs ps ss (min ss.length ps.length)
theorem kid_at {P : Params} {led : Led} {D : Addr} {kvs svs : List Value} {ps : List ParD} {ss : List SD} {n i : Nat} {sa : Addr} (h : Kids P led D kvs svs ps ss n) (hi : i < n) (hs : svs[i]? = some (Value.ref sa)) :
    ∃ v, kvs[((i : Int) + 1).toNat]? = some v ∧ Told P led v sa (20 + 10 * (i : Int)) ((codeAt ps ss i).isOk && letAt ps ss i) := by
  obtain ⟨a, v, h1, h2, h3⟩ := h.2.2 i hi
  rw [hs] at h1
  cases h1
  exact ⟨v, by rw [show ((i : Int) + 1).toNat = i + 1 by omega]; exact h2, h3⟩
theorem code_at {cvs : List Value} {ps : List ParD} {ss : List SD} {n i : Nat} (h : Codes cvs ps ss n) (hi : i < n) : ∃ t, cvs[((i : Int)).toNat]? = some (.str (codeAt ps ss i).str t) := by
  rw [Int.toNat_natCast]; exact h.2 i hi

section
theorem word_54 : True := by
  k_with "subscriptTail Name@lawbk2" => (k_here; (with_reducible show wpAny _ _ (subscriptTail _ _ (Value.ref _) (Value.int _ _)) _ _ _); k_dflt (refine' item_led ?k1_q9 ?k2_q9 ?k3_q9 ?k4_q9 ?k5_q9 ?_; (case k1_q9 => k_asm); (case k2_q9 => k_mem); (case k3_q9 => omega); (case k4_q9 => omega); (case k5_q9 => with_reducible assumption); k_whole))
  trivial
 local macro_rules | `(tactic| walk_at "subscriptTail Name") => `(tactic| k_extra "subscriptTail Name@lawbk2")
theorem word_55 : True := by
  k_with "subscriptTail Attribute@lawbk2" => (k_here; (with_reducible show wpAny _ _ (subscriptTail _ _ (Value.ref _) (Value.int _ _)) _ _ _); k_dflt (refine' item_led ?k1_q9 ?k2_q9 ?k3_q9 ?k4_q9 ?k5_q9 ?_; (case k1_q9 => k_asm); (case k2_q9 => k_mem); (case k3_q9 => omega); (case k4_q9 => omega); (case k5_q9 => with_reducible assumption); k_whole))
  trivial
 local macro_rules | `(tactic| walk_at "subscriptTail Attribute") => `(tactic| k_extra "subscriptTail Attribute@lawbk2")
theorem word_56 : True := by
  k_with "call ref@lawbk2" => (k_here; (with_reducible show wpAny _ _ (call (Value.ref 387) _) _ _ _); k_dflt (refine' Spec.useC (same_spec _ _ _ _ _ _ _ _ _ _ ?h1_q9 ?h2_q9 ?h3_q9) same_cps ?k1_q9 ?k2_q9 ?k3_q9 ?k4_q9 ?k5_q9 ?k6_q9 ?k7_q9 ?k8_q9 ?_; (case k1_q9 => k_asm); (case k2_q9 => k_asm); (case k3_q9 => k_asm); (case k4_q9 => k_asm); (case k5_q9 => k_asm); (case k6_q9 => first | exact rfl | assumption); (case k7_q9 => exact Nat.le_of_ble_eq_true rfl); (case k8_q9 => exact Nat.le_of_ble_eq_true rfl); (case h1_q9 => k_extra "MyRel"); (case h2_q9 => k_extra "MyRel"); (case h3_q9 => exact Told.mono (by assumption) (by k_extra "MySub")); k_whole; intro  h9 tk9 F9 N9; (try k_sweep); (try dsimp only); (try k_fold)))
  trivial
 local macro_rules | `(tactic| walk_at "call ref") => `(tactic| k_extra "call ref@lawbk2")
theorem word_57 : True := by
  k_with "LawC1" => (k_dflt (refine' law_c1 ?B_q9 ?F_q9 ?X_q9 ?N_q9 ?T_q9 (WS.mono ?w1_q9 ?w2_q9 ?w3_q9 ?w4_q9) ?_; (case B_q9 => k_asm); (case F_q9 => k_asm); (case X_q9 => k_asm); (case w1_q9 => assumption); (case N_q9 => (refine' Pick.two (by assumption) ?k40_q9 ?k41_q9; (case k40_q9 => k_extra "MyPick"); (case k41_q9 => k_extra "MyPick"))); (case T_q9 => k_asm); (case w2_q9 => k_extra "MySub"); (case w3_q9 => k_extra "MySep"); (case w4_q9 => k_extra "MySep")))
  trivial
set_option maxRecDepth 100000 in
set_option maxHeartbeats 4000000 in
theorem law_bk2 {w : World} {fa : Addr} {cd : Value} {p : Program} {loose : List Str} {mean : ExcName → Option Value} {mg mb : Str → Option Value} {h₀ : Heap} {L : Addr} {m : Str → Option Value} {n0 : Led} {P FL TO TD RW : Addr} {o o1 o2 o3 : Obj} {ts : Nat → Tok} {c : Int} {tc : Tok} {known : Value} {bo ch bt it : Addr} {ma ni : Value} {no : Addr} {q : Value}
    {EO RL PD TN MA PL SL DL CL D DT bs : Addr} {rvs dvs cvs pvs svs : List Value} {nr nd nc np ns : Nat} {st nn : Bool} {ps : List ParD} {ss : List SD} {num nb lb : Int} {bb qb dk dv : Value} {s : Shared} {Q : Flow → Shared → Prop} {E : Value → Shared → Prop}
    (B : Below callerA h₀ [] h₀) (F : Fr h₀ L s.heap (fun y => if y = Str.ofString "known_x" then some (.bool true) else if y = Str.ofString "as_statement" then some (.bool st) else if y = Str.ofString "made" then some (.ref MA) else if y = Str.ofString "sides" then some (.ref SL) else if y = Str.ofString "errors" then some (.ref EO) else if y = Str.ofString "told" then some (.ref TN) else if y = Str.ofString "due" then some (.ref DL) else if y = Str.ofString "codes" then some (.ref CL) else m y)) (X : (KK w.params).In h₀) {n1 r1 : Led} (N : News h₀ L s.heap n1) (pk1 : Pick P o n1 r1) (pk2 : Pick TD (tysD w.params ts c tc known bo ch bt it ma ni no) r1 n0) (T : Top p loose mean mg mb h₀)
    (W : WS w L P FL TO TD RW o c bo ch it no n0 o1 o2 o3 q) (hE : IsErr w.params n1 EO RL PD) (hRL : (RL, listOf rvs.toArray nr) ∈ n1) (hRd : DatAll n1 rvs ((useR st nn ps.length ss.length ++ argR ps ss (min ss.length ps.length)).map rowD)) (hDL : (DL, listOf dvs.toArray nd) ∈ n1) (hDd : DatAll n1 dvs ((useR st nn ps.length ss.length ++ argR ps ss (min ss.length ps.length)).map rowD))
    (hCL : (CL, listOf cvs.toArray nc) ∈ n1) (hC : Codes cvs ps ss (min ss.length ps.length)) (hTN : ToldOk w n1 TN bs D svs ps ss st nn) (hD : IsNode0 w.params n1 D "var" 5 (.ref DT) dk dv) (hMA : IsTy0 w.params n1 MA num "proc" 0 (.ref bs) (.ref PL)) (hBs : IsTy0 w.params n1 bs nb (bfS nn) lb bb qb)
    (hPL : (PL, listOf pvs.toArray np) ∈ n1) (hP : Pars w.params n1 pvs ps) (hSL : (SL, listOf svs.toArray ns) ∈ n1) (hS : Sides w.params n1 svs ss) (hp4 : ps.length ≤ 4) (hs5 : ss.length ≤ 5)
    (hpo : PassesOwn (model Challenge.rw_nu0337_01.row.prog w) (callerA.deeper (envOfC "law" S44 L fa cd)) (envOfC "law" S44 L fa cd) E)
    (hret : ∀ h' tk', (∀ b o, h₀.get? b = some o → h'.get? b = some o) → Q (.ret (.bool true)) { s with heap := h', toks := tk' }) :
    wpAny (model Challenge.rw_nu0337_01.row.prog w) (callerA.deeper (envOfC "law" S44 L fa cd)) (execs T17 (envOfC "law" S44 L fa cd)) Q E s := by
  w_top off
  revert X
  k_fill
  intro X
  have m1 : (P, o) ∈ n1 := pk1.mem _ List.mem_cons_self
  have m2 : (TD, tysD w.params ts c tc known bo ch bt it ma ni no) ∈ n1 := pk1.mem _ (.tail _ (pk2.mem _ List.mem_cons_self))
  have m3 : ∀ p ∈ n0, p ∈ n1 := fun p hp => pk1.mem _ (.tail _ (pk2.mem _ (.tail _ hp)))
  refine IsErr.elim hE fun ed ets e1 e2 e3 e4 => ?_
  refine IsNode0.elim hD fun dd dts dtop dtp dh1 dh2 => ?_
  refine IsTy0.elim hMA fun d ts0 tn tf tl size fields level module label hidden exno h1 h2 => ?_
  refine IsTy0.elim hBs fun d' ts' tn' tf' tl' size' fields' level' module' label' hidden' exno' h1' h2' => ?_
  have s1 := W.s1
  have s2 := W.s2
  have s3 := W.s3
  have hcl := hC.1
  have hsl := hS.1
  have hpl := hP.1
  k_with "compareOp NotEq ref ref" =>
    k_dflt (refine' rows_ne (by k_asm) hRL hRd (fun _ h => h) hDL hDd (fun _ h => h) ((useR_ok _ _ _ _).append (argR_ok _ _ _)) (Nat.le_of_ble_eq_true rfl) ?_; k_whole)
  k_with "execs cons" =>
    (with_reducible show wpAny _ _ (execs T19 _) _ _ _)
    focus
      k_extra "LawC1"
      exact fun h' tk' k => hret h' tk' k
  k_with "subscriptTail" =>
    (with_reducible show wpAny _ _ (subscriptTail _ _ (Value.ref _) (Value.int 0 _)) _ _ _)
    k_dflt (refine' item_led (by k_asm) hKL (by decide) (by decide) hk0 ?_; k_whole)
  k_with "exec For" => (k_dflt (refine' For_invVF (by k_asm) (by exact rfl) (by exact rfl) ?_ (by intro _; rfl) hpo))
  k_with "pyIter ref" =>
    focus
      (rename IsRange _ _ _ _ _ _ _ _ => hr9)
      (rename News _ _ _ _ => hN9)
      (rename Fr _ _ _ _ => hF9)
      k_dflt (refine' ro_loop (n := min ss.length ps.length) (by exact rfl) hr9 (by omega) (by omega) hF9 hN9 (fun i t h tk own hi hoff F' N' => ?_) (fun u h tk F' N' => ?_))
      rotate_left
      all_goals (try dsimp only)
      rotate_left
      refine turn_elim hP hS hi fun p1 d1' par pt sa hx1 hx2 hx3 hp1 hp2 hs1 hc1 hc2 => ?_
      obtain ⟨vv, hx4, hx5⟩ := kid_at hKd hi hx3
      obtain ⟨tcc, hx6⟩ := code_at hC hi
      rw [hc2] at hx5
      k_dflt ((refine IsObj.elim hp1 fun pd pts ptk pn pp pe ple pmo pva psl pof pnu pis pna hp3 hp4' => ?_))
  cases st <;> cases nn
  all_goals simp only [bfS, Bool.false_eq_true, if_false, if_true] at h2'
  all_goals simp only [ToldOk, Bool.false_eq_true, Bool.true_eq_false, false_and, and_false, and_true, true_and, if_false, if_true] at hTN
  case false.true =>
    obtain ⟨ty, kids, v, he8⟩ := hTN
    refine IsNode0.elim he8 fun td tts ttop ttp t1 t2 => ?_
    clear he8
    k_extra "MySteps"
  all_goals ((obtain ⟨KL, kvs, nk, he9, hKL, hKd⟩ := hTN); (refine IsNode0.elim he9 fun td tts ttop ttp t1 t2 => ?_); (clear he9))
  all_goals have hkl := hKd.1
  all_goals have hk0 : kvs[((0 : Int)).toNat]? = some (Value.ref D) := hKd.2.1
  all_goals k_extra "MySteps"
  all_goals first
    | (exfalso; omega)
    | exact ro_end hoff (by k_asm) (by k_asm) (fun y hy => if_neg hy)
   
end


theorem tick_lawfor {prog : Program} {w : World} {A : Around} {env : Env} {E : Value → Shared → Prop} {s : Shared} {Q : Flow → Shared → Prop} (h : wpAny (model prog w) A (execs [] env) Q E s) : wpAny (model prog w) A (execs [] env) Q E s := by
  first | (walk1; fail) | exact h

section
variable {prog : Program} {w : World} {A : Around} {E : Value → Shared → Prop} {s : Shared} {env : Env} {h₀ : Heap} {x : Str} {body : List Stmt} {Q : Flow → Shared → Prop}
theorem last_led {L : Addr} {news : Led} {value slice : PySem.Expr} {l : Addr} {vi : List Value} {v : Value} {n : Nat} {u : Tok} {Q : Value → Shared → Prop} (N : News h₀ L s.heap news) (hm : (l, listOf (vi ++ [v]).toArray n) ∈ news) (h : Q v s)
    (hs : subscripted slice false (.ref l) (.int (-1) u) = operate [.ref l, .int (-1) u] (getItem (.ref l) (.int (-1) u)) := by with_unfolding_all rfl) :
    wpAny (model prog w) A (subscriptTail value slice (.ref l) (.int (-1) u)) Q E s :=
  have hl : s.heap.IsList l (vi ++ [v]).toArray := ⟨_, N.get hm, rfl, n, rfl⟩
  tail_any hl.typeIs slot_list_getitem.lookup (wpAny_getItem_list_neg hl (by decide) (by simp; omega) (by decide) (by
    have e : ((-1 : Int) + ((vi ++ [v]).toArray.size : Int)).toNat = vi.length := by simp; omega
    rw [e]; simp) h) hs
/-- the rows due and the codes, so far -/
def DueJ (w : World) (rest : Led) (DL CL : Addr) (ps : List ParD) (ss : List SD) (bR : List (Int × Str)) (i : Nat) (nx : Led) : Prop :=
  ∃ (dvs : List Value) (nd : Nat) (cvs : List Value) (nc : Nat) (tl : Led), nx = (DL, listOf dvs.toArray nd) :: (CL, listOf cvs.toArray nc) :: (tl ++ rest) ∧ DatAll (tl ++ rest) dvs ((bR ++ argR ps ss i).map rowD) ∧ Codes cvs ps ss i ∧ (∀ p ∈ tl, p.1 ≠ DL) ∧ (∀ p ∈ tl, p.1 ≠ CL) ∧ Abv tl rest
def DueP (h₀ : Heap) (L : Addr) (m₀ : Str → Option Value) (w : World) (x : Str) (rest : Led) (DL CL : Addr) (ps : List ParD) (ss : List SD) (bR : List (Int × Str)) (i : Nat) (m' : Str → Option Value) (nx : Led) : Prop := (∀ y, y ≠ x → m' y = m₀ y) ∧ DueJ w rest DL CL ps ss bR (i + 1) nx
theorem due_loop {r : Addr} {b : Int} {t₀ u₀ v₀ : Tok} {n : Nat} {m₀ : Str → Option Value} {led led1 rest : Led} {DL CL : Addr} {dvs0 : List Value} {nd0 nc0 : Nat} {ps : List ParD} {ss : List SD} {bR : List (Int × Str)} (hh : A.handled = none) (hr : IsRange s.heap r 0 b 1 t₀ u₀ v₀) (hb : b = (n : Int)) (hc : n ≤ 10)
    (hDm : m₀ (Str.ofString "due") = some (.ref DL)) (hCm : m₀ (Str.ofString "codes") = some (.ref CL)) (F : Fr h₀ env.locals s.heap m₀) (N : News h₀ env.locals s.heap led) (pk1 : Pick DL (listOf dvs0.toArray nd0) led led1) (pk2 : Pick CL (listOf ([] : List Value).toArray nc0) led1 rest) (hd : DatAll rest dvs0 (bR.map rowD)) (hbl : bR.length ≤ 1)
    (turn : ∀ (i : Nat) t dvs nd cvs nc tl h tk own, i < n → TbOff own ((DL, listOf dvs.toArray nd) :: (CL, listOf cvs.toArray nc) :: (tl ++ rest)) → DatAll (tl ++ rest) dvs ((bR ++ argR ps ss i).map rowD) → Codes cvs ps ss i → (∀ p ∈ tl, p.1 ≠ DL) → (∀ p ∈ tl, p.1 ≠ CL) → Abv tl rest → (∀ p ∈ own, p.1 ≠ DL) → (∀ p ∈ own, p.1 ≠ CL) → dvs.length ≤ 10 + i →
      Fr h₀ env.locals h (fun y => if y = x then some (.int (i : Int) t) else m₀ y) → News h₀ env.locals h ((DL, listOf dvs.toArray nd) :: (CL, listOf cvs.toArray nc) :: (tl ++ (rest ++ own))) →
      wpAny (model prog w) A (execs body env) (TbPost h₀ env.locals (DueP h₀ env.locals m₀ w x rest DL CL ps ss bR i) own { s with heap := h, toks := tk } Q) E { s with heap := h, toks := tk })
    (done : ∀ (u : Str → Option Value) dvs nd cvs nc tl h tk, DatAll (tl ++ rest) dvs ((bR ++ argR ps ss n).map rowD) → Codes cvs ps ss n → (∀ p ∈ tl, p.1 ≠ DL) → (∀ p ∈ tl, p.1 ≠ CL) → Abv tl rest → Fr h₀ env.locals h (fun y => if y = x then u y else m₀ y) → News h₀ env.locals h ((DL, listOf dvs.toArray nd) :: (CL, listOf cvs.toArray nc) :: (tl ++ rest)) → Q .next { s with heap := h, toks := tk }) :
    wpAny (model prog w) A (pyIter (.ref r)) (fun it s₂ => LoopAtV prog w A h₀ env x body Q E it s₂) E s := by
  subst hb
  refine my_range (n := n) (DueJ w rest DL CL ps ss bR) hh hr (small_one (by omega) (by omega) (by omega) (by omega)) (by rw [rangeSize_one]; split <;> omega) F (Pick.two N pk1 pk2)
    ⟨dvs0, nd0, [], nc0, [], rfl, by simpa [argR] using hd, ⟨rfl, fun i hi => absurd hi (Nat.not_lt_zero _)⟩, fun _ h => (nomatch h), fun _ h => (nomatch h), Abv.nil⟩ ?_ ?_
  · rintro i t nx h tk own hi hoff ⟨dvs, nd, cvs, nc, tl, rfl, h1, h2, h3, h4, h5⟩ F₁ N₁
    rw [show (0 : Int) + (i : Int) = (i : Int) by omega] at F₁
    have hz : dvs.length ≤ 10 + i := by
      have a1 := h1.length
      have a2 := argR_len ps ss i
      rw [List.length_map, List.length_append] at a1
      omega
    exact turn i t dvs nd cvs nc tl h tk own hi hoff h1 h2 h3 h4 h5 (fun p hp => hoff p hp _ List.mem_cons_self) (fun p hp => hoff p hp _ (.tail _ List.mem_cons_self)) hz F₁ (by simpa only [List.cons_append, List.append_assoc] using N₁)
  · rintro u nx h tk ⟨dvs, nd, cvs, nc, tl, rfl, h1, h2, h3, h4, h5⟩ F₁ N₁
    exact done u dvs nd cvs nc tl h tk h1 h2 h3 h4 h5 F₁ N₁
end
theorem Codes.len {cvs : List Value} {ps : List ParD} {ss : List SD} {n : Nat} (h : Codes cvs ps ss n) : cvs.length = n := h.1
theorem Codes.snoc {cvs : List Value} {ps : List ParD} {ss : List SD} {i : Nat} {t : Tok} (h : Codes cvs ps ss i) : Codes (cvs ++ [Value.str (codeAt ps ss i).str t]) ps ss (i + 1) := by
  refine ⟨by rw [List.length_append, h.1]; rfl, fun j hj => ?_⟩
  by_cases e : j = i
  · subst e
    exact ⟨t, by rw [List.getElem?_append_right (by rw [h.1]; omega), h.1]; simp⟩
  · obtain ⟨u, hu⟩ := h.2 j (by omega)
    exact ⟨u, by rw [List.getElem?_append_left (by rw [h.1]; omega)]; exact hu⟩
section
variable {w : World} {x : Str} {h₀ : Heap} {L DL CL : Addr} {m₀ m' : Str → Option Value} {h' : Heap} {tk : Nat} {s₁ : Shared} {dvs cvs : List Value} {nd nc nd' nc' : Nat} {tl rest own : Led} {ps : List ParD} {ss : List SD} {bR : List (Int × Str)} {i : Nat} {t : Tok}
theorem due_fine (hoff : TbOff own ((DL, listOf dvs.toArray nd) :: (CL, listOf cvs.toArray nc) :: (tl ++ rest))) (hd : DatAll (tl ++ rest) dvs ((bR ++ argR ps ss i).map rowD)) (hc : Codes cvs ps ss i) (y1 : ∀ p ∈ tl, p.1 ≠ DL) (y2 : ∀ p ∈ tl, p.1 ≠ CL) (y5 : Abv tl rest) (hm : ∀ y, y ≠ x → m' y = m₀ y)
    (F : Fr h₀ L h' m') (N : News h₀ L h' ((DL, listOf dvs.toArray nd) :: (CL, listOf (cvs ++ [Value.str (codeAt ps ss i).str t]).toArray nc') :: (tl ++ (rest ++ own)))) (e : ((codeAt ps ss i).str != "") = false) :
    TbEnd h₀ L (DueP h₀ L m₀ w x rest DL CL ps ss bR i) own s₁ { s₁ with heap := h', toks := tk } := by
  have e9 := CK.ne_ok (codeAt ps ss i)
  rw [e] at e9
  have e8 : (codeAt ps ss i).isOk = true := by simpa using e9.symm
  refine ⟨h', tk, m', _, (DL, listOf dvs.toArray nd) :: (CL, listOf (cvs ++ [Value.str (codeAt ps ss i).str t]).toArray nc') :: (tl ++ rest), rfl, F, N, ?_, ?_, ?_, hm, dvs, nd, _, nc', tl, rfl, ?_, hc.snoc, y1, y2, y5⟩
  · intro p hp
    simp only [List.mem_cons, List.mem_append] at hp ⊢
    rcases hp with h | h | h | h <;> simp [h]
  · intro p hp
    simp only [List.mem_cons, List.mem_append]
    simp [hp]
  · intro p hp q hq
    have h1 := fun q hq => hoff p hp q hq
    rcases List.mem_cons.mp hq with rfl | hq
    · exact h1 (DL, listOf dvs.toArray nd) List.mem_cons_self
    rcases List.mem_cons.mp hq with rfl | hq
    · exact h1 (CL, listOf cvs.toArray nc) (.tail _ List.mem_cons_self)
    · exact h1 q (.tail _ (.tail _ hq))
  · simp only [argR, markR, e8, if_true, List.append_nil]; exact hd
theorem due_bad {D : Addr} {t1 t2 : Tok} {k : Nat} (hoff : TbOff own ((DL, listOf dvs.toArray nd) :: (CL, listOf cvs.toArray nc) :: (tl ++ rest))) (hd : DatAll (tl ++ rest) dvs ((bR ++ argR ps ss i).map rowD)) (hc : Codes cvs ps ss i) (y1 : ∀ p ∈ tl, p.1 ≠ DL) (y2 : ∀ p ∈ tl, p.1 ≠ CL) (y5 : Abv tl rest) (hm : ∀ y, y ≠ x → m' y = m₀ y) (k1 : @Ne Nat D DL) (k2 : @Ne Nat D CL) (k3 : ∀ p ∈ own, p.1 ≠ D) (k4 : ∀ q ∈ rest, @LT.lt Nat _ q.1 D)
    (F : Fr h₀ L h' m') (N : News h₀ L h' ((D, ({ cls := .type "tuple", data := .seq [Value.int (20 + 10 * (i : Int)) t1, .str (codeAt ps ss i).str t2].toArray k } : Obj)) :: (DL, listOf (dvs ++ [Value.ref D]).toArray nd') :: (CL, listOf (cvs ++ [Value.str (codeAt ps ss i).str t]).toArray nc') :: (tl ++ (rest ++ own)))) (e : ((codeAt ps ss i).str != "") = true) :
    TbEnd h₀ L (DueP h₀ L m₀ w x rest DL CL ps ss bR i) own s₁ { s₁ with heap := h', toks := tk } := by
  have e9 := CK.ne_ok (codeAt ps ss i)
  rw [e] at e9
  have e8 : (codeAt ps ss i).isOk = false := by simpa using e9.symm
  refine ⟨h', tk, m', _, (DL, listOf (dvs ++ [Value.ref D]).toArray nd') :: (CL, listOf (cvs ++ [Value.str (codeAt ps ss i).str t]).toArray nc') :: (((D, ({ cls := .type "tuple", data := .seq [Value.int (20 + 10 * (i : Int)) t1, .str (codeAt ps ss i).str t2].toArray k } : Obj)) :: tl) ++ rest), rfl, F, N, ?_, ?_, ?_, hm, _, nd', _, nc', _ :: tl, rfl, ?_, hc.snoc, ?_, ?_, Abv.cons k4 y5⟩
  · intro p hp
    simp only [List.mem_cons, List.mem_append] at hp ⊢
    rcases hp with h | h | (h | h) | h <;> simp [h]
  · intro p hp
    simp only [List.mem_cons, List.mem_append]
    simp [hp]
  · intro p hp q hq
    have h1 := fun q hq => hoff p hp q hq
    rcases List.mem_cons.mp hq with rfl | hq
    · exact h1 (DL, listOf dvs.toArray nd) List.mem_cons_self
    rcases List.mem_cons.mp hq with rfl | hq
    · exact h1 (CL, listOf cvs.toArray nc) (.tail _ List.mem_cons_self)
    rcases List.mem_append.mp hq with hq | hq
    · rcases List.mem_cons.mp hq with rfl | hq
      · exact k3 p hp
      · exact h1 q (.tail _ (.tail _ (List.mem_append.mpr (.inl hq))))
    · exact h1 q (.tail _ (.tail _ (List.mem_append.mpr (.inr hq))))
  · simp only [argR, markR, e8, Bool.false_eq_true, if_false]
    rw [← List.append_assoc, List.map_append]
    exact DatAll.append (hd.mono fun p hp => List.mem_cons_of_mem _ hp) (.cons (.tuple (vs := [_, _]) (n := k) List.mem_cons_self (.cons (.int _ _) (.cons (.str _ _) .nil))) .nil)
  · exact List.forall_mem_cons.mpr ⟨k1, y1⟩
  · exact List.forall_mem_cons.mpr ⟨k2, y2⟩
end

theorem fr8 {h₀ h : Heap} {L : Addr} {m : Str → Option Value} {x1 x2 x3 x4 x5 x6 x7 x8 : Str} {v1 v2 v3 v4 v5 v6 v7 v8 : Value} (F : Fr h₀ L h m) (h1 : m x1 = some v1) (h2 : m x2 = some v2) (h3 : m x3 = some v3) (h4 : m x4 = some v4) (h5 : m x5 = some v5) (h6 : m x6 = some v6) (h7 : m x7 = some v7) (h8 : m x8 = some v8) :
    Fr h₀ L h (fun y => if y = x1 then some v1 else if y = x2 then some v2 else if y = x3 then some v3 else if y = x4 then some v4 else if y = x5 then some v5 else if y = x6 then some v6 else if y = x7 then some v7 else if y = x8 then some v8 else m y) := by
  have e : (fun y => if y = x1 then some v1 else if y = x2 then some v2 else if y = x3 then some v3 else if y = x4 then some v4 else if y = x5 then some v5 else if y = x6 then some v6 else if y = x7 then some v7 else if y = x8 then some v8 else m y) = m := by
    funext y
    split
    · next e => rw [e, h1]
    next =>
      split
      · next e => rw [e, h2]
      next =>
        split
        · next e => rw [e, h3]
        next =>
          split
          · next e => rw [e, h4]
          next =>
            split
            · next e => rw [e, h5]
            next =>
              split
              · next e => rw [e, h6]
              next =>
                split
                · next e => rw [e, h7]
                next =>
                  split
                  · next e => rw [e, h8]
                  next =>
                    rfl
  rw [e]; exact F
theorem use_a {st nn : Bool} {np ns : Nat} (h : (st == (bfS nn != ("none" : Str))) = true) (h1 : st = true) : useR st nn np ns = ([(5, "is_a_function")] : List (Int × Str)) := by
  subst h1
  cases nn
  · rfl
  · exact absurd h (by decide)
theorem use_b {st nn : Bool} {np ns : Nat} (h : (st == (bfS nn != ("none" : Str))) = true) (h1 : st = false) : useR st nn np ns = ([(5, "not_a_function")] : List (Int × Str)) := by
  subst h1
  cases nn
  · exact absurd h (by decide)
  · rfl
theorem use_n {st nn : Bool} (h : (st == (bfS nn != ("none" : Str))) = false) : (useS st nn != "") = false := by
  cases st <;> cases nn <;> first | rfl | exact absurd h (by decide)
theorem use_c {st nn : Bool} {np ns : Nat} (h : (st == (bfS nn != ("none" : Str))) = false) (h1 : (ns : Int) ≠ (np : Int)) : useR st nn np ns = ([(9, "wrong_count")] : List (Int × Str)) := by
  rw [useR, if_neg (by rw [use_n h]; decide), if_neg h1]
theorem use_d {st nn : Bool} {np ns : Nat} (h : (st == (bfS nn != ("none" : Str))) = false) (h1 : (ns : Int) = (np : Int)) : useR st nn np ns = [] := by
  rw [useR, if_neg (by rw [use_n h]; decide), if_pos h1]
theorem ToldOk.mono {w : World} {led led' : Led} {TN bs D : Addr} {svs : List Value} {ps : List ParD} {ss : List SD} {st nn : Bool} (h : ToldOk w led TN bs D svs ps ss st nn) (hs : ∀ p ∈ led, p ∈ led') : ToldOk w led' TN bs D svs ps ss st nn := by
  unfold ToldOk at *
  split at h
  · rename_i e
    rw [if_pos e]
    obtain ⟨ty, kids, v, h⟩ := h
    exact ⟨ty, kids, v, h.mono hs⟩
  · rename_i e
    rw [if_neg e]
    obtain ⟨KL, kvs, nk, h1, h2, h3⟩ := h
    exact ⟨KL, kvs, nk, h1.mono hs, hs _ h2, h3.mono hs⟩
section
variable {w : World} {x : Str} {h₀ : Heap} {L DL CL : Addr} {m₀ m' : Str → Option Value} {h' : Heap} {tk : Nat} {s₁ : Shared} {dvs cvs : List Value} {nd nc nd' nc' : Nat} {tl rest own : Led} {ps : List ParD} {ss : List SD} {bR : List (Int × Str)} {i : Nat} {t : Tok} {c : CK}
theorem due_fine' (hcc : codeAt ps ss i = c) (hoff : TbOff own ((DL, listOf dvs.toArray nd) :: (CL, listOf cvs.toArray nc) :: (tl ++ rest))) (hd : DatAll (tl ++ rest) dvs ((bR ++ argR ps ss i).map rowD)) (hc : Codes cvs ps ss i) (y1 : ∀ p ∈ tl, p.1 ≠ DL) (y2 : ∀ p ∈ tl, p.1 ≠ CL) (y5 : Abv tl rest) (hm : ∀ y, y ≠ x → m' y = m₀ y)
    (F : Fr h₀ L h' m') (N : News h₀ L h' ((DL, listOf dvs.toArray nd) :: (CL, listOf (cvs ++ [Value.str c.str t]).toArray nc') :: (tl ++ (rest ++ own)))) (e : (c.str != "") = false) :
    TbEnd h₀ L (DueP h₀ L m₀ w x rest DL CL ps ss bR i) own s₁ { s₁ with heap := h', toks := tk } := by
  subst hcc
  exact due_fine hoff hd hc y1 y2 y5 hm F N e
theorem due_bad' {D : Addr} {t1 t2 : Tok} {k : Nat} (hcc : codeAt ps ss i = c) (hoff : TbOff own ((DL, listOf dvs.toArray nd) :: (CL, listOf cvs.toArray nc) :: (tl ++ rest))) (hd : DatAll (tl ++ rest) dvs ((bR ++ argR ps ss i).map rowD)) (hc : Codes cvs ps ss i) (y1 : ∀ p ∈ tl, p.1 ≠ DL) (y2 : ∀ p ∈ tl, p.1 ≠ CL) (y5 : Abv tl rest) (hm : ∀ y, y ≠ x → m' y = m₀ y)
    (F : Fr h₀ L h' m') (N : News h₀ L h' ((D, ({ cls := .type "tuple", data := .seq [Value.int (20 + 10 * (i : Int)) t1, .str c.str t2].toArray k } : Obj)) :: (DL, listOf (dvs ++ [Value.ref D]).toArray nd') :: (CL, listOf (cvs ++ [Value.str c.str t]).toArray nc') :: (tl ++ (rest ++ own)))) (e : (c.str != "") = true) (k1 : @Ne Nat D DL) (k2 : @Ne Nat D CL) (k3 : ∀ p ∈ own, p.1 ≠ D) (k4 : ∀ q ∈ rest, @LT.lt Nat _ q.1 D) :
    TbEnd h₀ L (DueP h₀ L m₀ w x rest DL CL ps ss bR i) own s₁ { s₁ with heap := h', toks := tk } := by
  subst hcc
  exact due_bad hoff hd hc y1 y2 y5 hm k1 k2 k3 k4 F N e
end
theorem dat_mono {news news' : Led} {vs : List Value} {ds : List Dat} (h : DatAll news vs ds) (hs : ∀ p ∈ news, p ∈ news') : DatAll news' vs ds := h.mono hs

theorem word_58 : True := by
  k_with "LawBK2" => (k_dflt (refine' law_bk2 ?B_q9 ?F_q9 ?X_q9 ?N_q9 ?pk1_q9 ?pk2_q9 ?T_q9 (WS.mono ?w1_q9 ?w2_q9 ?w3_q9 ?w4_q9) ?hE_q9 ?hRL_q9 ?hRd_q9 ?hDL_q9 ?hDd_q9 ?hCL_q9 ?hC_q9 ?hTN_q9 ?hD_q9 ?hMA_q9 ?hBs_q9 ?hPL_q9 ?hP_q9 ?hSL_q9 ?hS_q9 ?hp4_q9 ?hs5_q9 ?hpo_q9 ?_; (case B_q9 => k_asm); (case F_q9 => (refine' fr8 ?f0_q9 ?f1_q9 ?f2_q9 ?f3_q9 ?f4_q9 ?f5_q9 ?f6_q9 ?f7_q9 ?f8_q9; (case f0_q9 => k_asm); (case f1_q9 => exact rfl); (case f2_q9 => exact rfl); (case f3_q9 => exact rfl); (case f4_q9 => exact rfl); (case f5_q9 => exact rfl); (case f6_q9 => exact rfl); (case f7_q9 => exact rfl); (case f8_q9 => exact rfl))); (case X_q9 => k_asm); (case w1_q9 => assumption); (case N_q9 => k_asm); (case pk1_q9 => k_extra "MyPick"); (case pk2_q9 => k_extra "MyPick"); (case T_q9 => k_asm); (case hC_q9 => assumption); (case hE_q9 => k_extra "MyRel"); (case hRL_q9 => k_extra "MyMem"); (case hDL_q9 => k_extra "MyMem"); (case hCL_q9 => k_extra "MyMem"); (case hTN_q9 => exact ToldOk.mono (by assumption) (by k_extra "MySub")); (case hMA_q9 => k_extra "MyRel"); (case hBs_q9 => k_extra "MyRel"); (case hD_q9 => k_extra "MyRel"); (case hPL_q9 => k_extra "MyMem"); (case hSL_q9 => k_extra "MyMem"); (case hP_q9 => exact Pars.mono (by assumption) (by k_extra "MySub")); (case hS_q9 => exact Sides.mono (by assumption) (by k_extra "MySub")); (case hp4_q9 => assumption); (case hs5_q9 => assumption); (case hpo_q9 => assumption); (case hRd_q9 => exact dat_mono (by assumption) (by k_extra "MySub")); (case hDd_q9 => exact dat_mono (by assumption) (by k_extra "MySub")); (case w2_q9 => k_extra "MySub"); (case w3_q9 => k_extra "MySep"); (case w4_q9 => k_extra "MySep")))
  trivial
section
theorem word_59 : True := by
  k_with "call builtin:list.append@lawfor" => (k_here; (with_reducible show wpAny _ _ (call (Value.builtin _) [Value.ref _, _]) _ _ _); k_dflt (refine' append_K ?k1_q9 ?k2_q9 ?k3_q9 ?_ ?z_q9; (case k1_q9 => k_asm); (case k2_q9 => k_asm); (case k3_q9 => k_upd); (case z_q9 => size_fits); k_whole); intro h' F' N'; (try simp only [List.push_toArray] at N'); (try k_sweep))
  trivial
 local macro_rules | `(tactic| walk_at "call builtin:list.append") => `(tactic| k_extra "call builtin:list.append@lawfor")
theorem word_60 : True := by
  k_with "subscriptTail Name@lawfor" => (k_here; (with_reducible show wpAny _ _ (subscriptTail _ _ (Value.ref _) (Value.int _ _)) _ _ _); k_dflt (refine' item_led ?k1_q9 ?k2_q9 ?k3_q9 ?k4_q9 ?k5_q9 ?_; (case k1_q9 => k_asm); (case k2_q9 => k_mem); (case k3_q9 => omega); (case k4_q9 => omega); (case k5_q9 => with_reducible assumption); k_whole))
  trivial
 local macro_rules | `(tactic| walk_at "subscriptTail Name") => `(tactic| k_extra "subscriptTail Name@lawfor")
theorem word_61 : True := by
  k_with "subscriptTail Attribute@lawfor" => (k_here; (with_reducible show wpAny _ _ (subscriptTail _ _ (Value.ref _) (Value.int _ _)) _ _ _); k_dflt (refine' item_led ?k1_q9 ?k2_q9 ?k3_q9 ?k4_q9 ?k5_q9 ?_; (case k1_q9 => k_asm); (case k2_q9 => k_mem); (case k3_q9 => omega); (case k4_q9 => omega); (case k5_q9 => with_reducible assumption); k_whole))
  trivial
 local macro_rules | `(tactic| walk_at "subscriptTail Attribute") => `(tactic| k_extra "subscriptTail Attribute@lawfor")
@[reducible] noncomputable def F14 : Stmt := Subtype.val (p := fun b => (match T14 with | _ :: _ :: Stmt.If _ _ (_ :: f :: _) _ :: _ => some f | _ => none) = some b) ⟨_, by conv => lhs; whnf⟩
set_option maxRecDepth 100000 in
set_option maxHeartbeats 4000000 in
theorem law_for {w : World} {fa : Addr} {cd : Value} {p : Program} {loose : List Str} {mean : ExcName → Option Value} {mg mb : Str → Option Value} {h₀ : Heap} {L : Addr} {m : Str → Option Value} {n0 rest : Led}
    {MA PL SL DL CL bs : Addr} {dvs0 pvs svs : List Value} {nd0 nc0 np ns : Nat} {ps : List ParD} {ss : List SD} {bR : List (Int × Str)} {num : Int} {s : Shared} {Q : Flow → Shared → Prop} {E : Value → Shared → Prop}
    (B : Below callerA h₀ [] h₀) (F : Fr h₀ L s.heap (fun y => if y = Str.ofString "made" then some (.ref MA) else if y = Str.ofString "sides" then some (.ref SL) else if y = Str.ofString "due" then some (.ref DL) else if y = Str.ofString "codes" then some (.ref CL) else m y)) (X : (KK w.params).In h₀)
    (N : News h₀ L s.heap ((DL, listOf dvs0.toArray nd0) :: (CL, listOf ([] : List Value).toArray nc0) :: rest)) (T : Top p loose mean mg mb h₀) (hs : ∀ p ∈ n0, p ∈ rest) (hMA : IsTy0 w.params n0 MA num "proc" 0 (.ref bs) (.ref PL)) (hPL : (PL, listOf pvs.toArray np) ∈ n0) (hP : Pars w.params n0 pvs ps) (hSL : (SL, listOf svs.toArray ns) ∈ n0) (hS : Sides w.params n0 svs ss) (hp4 : ps.length ≤ 4) (hs5 : ss.length ≤ 5)
    (hd : DatAll rest dvs0 (bR.map rowD)) (hbl : bR.length ≤ 1) (r1 : ∀ p ∈ rest, p.1 ≠ DL) (r2 : ∀ p ∈ rest, p.1 ≠ CL) (r3 : @Ne Nat DL CL)
    (hpo : PassesOwn (model Challenge.rw_nu0337_01.row.prog w) (callerA.deeper (envOfC "law" S44 L fa cd)) (envOfC "law" S44 L fa cd) E)
    (hdone : ∀ (u : Str → Option Value) dvs nd cvs nc tl h tk, DatAll (tl ++ rest) dvs ((bR ++ argR ps ss (min ss.length ps.length)).map rowD) → Codes cvs ps ss (min ss.length ps.length) → (∀ p ∈ tl, p.1 ≠ DL) → (∀ p ∈ tl, p.1 ≠ CL) → Abv tl rest →
      Fr h₀ L h (fun y => if y = Str.ofString "step" then u y else if y = Str.ofString "made" then some (.ref MA) else if y = Str.ofString "sides" then some (.ref SL) else if y = Str.ofString "due" then some (.ref DL) else if y = Str.ofString "codes" then some (.ref CL) else m y) → News h₀ L h ((DL, listOf dvs.toArray nd) :: (CL, listOf cvs.toArray nc) :: (tl ++ rest)) → Q .next { s with heap := h, toks := tk }) :
    wpAny (model Challenge.rw_nu0337_01.row.prog w) (callerA.deeper (envOfC "law" S44 L fa cd)) (exec F14 (envOfC "law" S44 L fa cd)) Q E s := by
  w_top off
  revert X
  k_fill
  intro X
  have hPL' := hs _ hPL
  have hSL' := hs _ hSL
  refine IsTy0.elim (hMA.mono hs) fun d ts0 tn tf tl size fields level module label hidden exno h1 h2 => ?_
  have hsl := hS.1
  have hpl := hP.1
  have hmin : (if (pvs.length : Int) < (svs.length : Int) then (pvs.length : Int) else (svs.length : Int)) = ((min ss.length ps.length : Nat) : Int) := by split <;> omega
  k_with "exec For" => (k_dflt (refine' For_invVF (by k_asm) (by exact rfl) (by exact rfl) ?_ (by intro _; rfl) hpo))
  k_with "subscriptTail" =>
    (with_reducible show wpAny _ _ (subscriptTail _ _ (Value.ref _) (Value.int (-1) _)) _ _ _)
    k_dflt (refine' last_led (by k_asm) (by k_mem) ?_; k_whole)
  k_with "pyIter ref" =>
    focus
      (rename IsRange _ _ _ _ _ _ _ _ => hr9)
      (rename News _ _ _ _ => hN9)
      (rename Fr _ _ _ _ => hF9)
      k_dflt (refine' due_loop (w := w) (n := min ss.length ps.length) (ps := ps) (ss := ss) (bR := bR) (by exact rfl) hr9 (by first | exact hmin | omega) (by omega) (by exact rfl) (by exact rfl) hF9 hN9 .head .head hd hbl (fun i t dvs nd cvs nc tl h tk own hi hoff hdat hC y1 y2 y5 y3 y4 hz F' N' => ?_) (fun u dvs nd cvs nc tl h tk hdat hC y1 y2 y5 F' N' => ?_))
      rotate_left
      all_goals (try dsimp only)
      rotate_left
      have hcl := Codes.len hC
      refine turn_elim (Pars.mono hP hs) (Sides.mono hS hs) hi fun p1 d1' par pt sa hx1 hx2 hx3 hp1 hp2 hs1 hc1 hc2 => ?_
  k_extra "MySteps"
  all_goals first
    | exact due_fine' hc1 hoff hdat hC y1 y2 y5 (fun y hy => if_neg hy) (by k_asm) (by k_asm) (by assumption)
    | exact due_bad' hc1 hoff hdat hC y1 y2 y5 (fun y hy => if_neg hy) (by k_asm) (by k_asm) (by assumption) (by k_extra "MyNe") (by k_extra "MyNe") (by k_extra "MySep") (by k_extra "MyLt")
    | exact hdone _ _ _ _ _ _ _ _ hdat hC y1 y2 y5 (by k_asm) (by k_asm)
   
end


theorem tick_lawbk1 {prog : Program} {w : World} {A : Around} {env : Env} {E : Value → Shared → Prop} {s : Shared} {Q : Flow → Shared → Prop} (h : wpAny (model prog w) A (execs [] env) Q E s) : wpAny (model prog w) A (execs [] env) Q E s := by
  first | (walk1; fail) | exact h

theorem fr4 {h₀ h : Heap} {L : Addr} {m : Str → Option Value} {x1 x2 x3 x4 : Str} {v1 v2 v3 v4 : Value} (F : Fr h₀ L h m) (h1 : m x1 = some v1) (h2 : m x2 = some v2) (h3 : m x3 = some v3) (h4 : m x4 = some v4) :
    Fr h₀ L h (fun y => if y = x1 then some v1 else if y = x2 then some v2 else if y = x3 then some v3 else if y = x4 then some v4 else m y) := by
  have e : (fun y => if y = x1 then some v1 else if y = x2 then some v2 else if y = x3 then some v3 else if y = x4 then some v4 else m y) = m := by
    funext y
    split
    · next e => rw [e, h1]
    · split
      · next e => rw [e, h2]
      · split
        · next e => rw [e, h3]
        · split
          · next e => rw [e, h4]
          · rfl
  rw [e]; exact F
theorem useR_by {w : World} {led : Led} {TN bs D : Addr} {svs : List Value} {ps : List ParD} {ss : List SD} {st nn : Bool} (h9 : ToldOk w led TN bs D svs ps ss st nn) : (useR st nn ps.length ss.length).length ≤ 1 := useR_len _ _ _ _
section
theorem word_62 : True := by
  k_with "call builtin:list.append@lawbk1" => (k_here; (with_reducible show wpAny _ _ (call (Value.builtin _) [Value.ref _, _]) _ _ _); k_dflt (refine' append_K ?k1_q9 ?k2_q9 ?k3_q9 ?_ ?z_q9; (case k1_q9 => k_asm); (case k2_q9 => k_asm); (case k3_q9 => k_upd); (case z_q9 => size_fits); k_whole); intro h' F' N'; (try simp only [List.push_toArray] at N'); (try k_sweep))
  trivial
 local macro_rules | `(tactic| walk_at "call builtin:list.append") => `(tactic| k_extra "call builtin:list.append@lawbk1")
theorem word_63 : True := by
  k_with "subscriptTail Name@lawbk1" => (k_here; (with_reducible show wpAny _ _ (subscriptTail _ _ (Value.ref _) (Value.int _ _)) _ _ _); k_dflt (refine' item_led ?k1_q9 ?k2_q9 ?k3_q9 ?k4_q9 ?k5_q9 ?_; (case k1_q9 => k_asm); (case k2_q9 => k_mem); (case k3_q9 => omega); (case k4_q9 => omega); (case k5_q9 => with_reducible assumption); k_whole))
  trivial
 local macro_rules | `(tactic| walk_at "subscriptTail Name") => `(tactic| k_extra "subscriptTail Name@lawbk1")
theorem word_64 : True := by
  k_with "subscriptTail Attribute@lawbk1" => (k_here; (with_reducible show wpAny _ _ (subscriptTail _ _ (Value.ref _) (Value.int _ _)) _ _ _); k_dflt (refine' item_led ?k1_q9 ?k2_q9 ?k3_q9 ?k4_q9 ?k5_q9 ?_; (case k1_q9 => k_asm); (case k2_q9 => k_mem); (case k3_q9 => omega); (case k4_q9 => omega); (case k5_q9 => with_reducible assumption); k_whole))
  trivial
 local macro_rules | `(tactic| walk_at "subscriptTail Attribute") => `(tactic| k_extra "subscriptTail Attribute@lawbk1")
 local macro_rules | `(tactic| walk_at "exec For Name Call cons nil") => `(tactic| k_extra "exec For Name Call cons nil")
theorem word_65 : True := by
  k_with "LawFor" => (k_dflt (refine' law_for ?B_q9 ?F_q9 ?X_q9 ?N_q9 ?T_q9 ?hs_q9 ?hMA_q9 ?hPL_q9 ?hP_q9 ?hSL_q9 ?hS_q9 ?hp4_q9 ?hs5_q9 ?hd_q9 ?hbl_q9 ?r1_q9 ?r2_q9 ?r3_q9 ?hpo_q9 ?_; (case B_q9 => k_asm); (case F_q9 => (refine' fr4 ?f0_q9 ?f1_q9 ?f2_q9 ?f3_q9 ?f4_q9; (case f0_q9 => k_asm); (case f1_q9 => exact rfl); (case f2_q9 => exact rfl); (case f3_q9 => exact rfl); (case f4_q9 => exact rfl))); (case X_q9 => k_asm); (case N_q9 => (refine' Pick.two (by k_asm) ?k40_q9 ?k41_q9; (case k40_q9 => k_extra "MyPick"); (case k41_q9 => k_extra "MyPick"))); (case T_q9 => k_asm); (case hMA_q9 => assumption); (case hPL_q9 => assumption); (case hP_q9 => assumption); (case hSL_q9 => assumption); (case hS_q9 => assumption); (case hp4_q9 => assumption); (case hs5_q9 => assumption); (case hpo_q9 => assumption); (case hs_q9 => k_extra "MySub"); (case hbl_q9 => exact useR_by (by assumption)); (case hd_q9 => first | (rw [use_a (by assumption) (by assumption)]; k_extra "MyRowDat") | (rw [use_b (by assumption) (by assumption)]; k_extra "MyRowDat") | (rw [use_c (by assumption) (by omega)]; k_extra "MyRowDat") | (rw [use_d (by assumption) (by omega)]; simp only [List.map_nil]; exact .nil)); (case r1_q9 => k_extra "MySep"); (case r2_q9 => k_extra "MySep"); (case r3_q9 => k_extra "MyNe")))
  trivial
set_option maxRecDepth 100000 in
set_option maxHeartbeats 4000000 in
theorem law_bk1 {w : World} {fa : Addr} {cd : Value} {p : Program} {loose : List Str} {mean : ExcName → Option Value} {mg mb : Str → Option Value} {h₀ : Heap} {L : Addr} {m : Str → Option Value} {n0 : Led} {P FL TO TD RW : Addr} {o o1 o2 o3 : Obj} {ts : Nat → Tok} {c : Int} {tc : Tok} {known : Value} {bo ch bt it : Addr} {ma ni : Value} {no : Addr} {q : Value}
    {EO RL PD TN MA PL SL D DT bs : Addr} {rvs pvs svs : List Value} {nr np ns : Nat} {st nn : Bool} {ps : List ParD} {ss : List SD} {num nb lb : Int} {bb qb dk dv : Value} {s : Shared} {Q : Flow → Shared → Prop} {E : Value → Shared → Prop}
    (B : Below callerA h₀ [] h₀) (F : Fr h₀ L s.heap (fun y => if y = Str.ofString "known_x" then some (.bool true) else if y = Str.ofString "as_statement" then some (.bool st) else if y = Str.ofString "made" then some (.ref MA) else if y = Str.ofString "sides" then some (.ref SL) else if y = Str.ofString "errors" then some (.ref EO) else if y = Str.ofString "told" then some (.ref TN) else m y)) (X : (KK w.params).In h₀) {n1 r1 : Led} (N : News h₀ L s.heap n1) (pk1 : Pick P o n1 r1) (pk2 : Pick TD (tysD w.params ts c tc known bo ch bt it ma ni no) r1 n0) (T : Top p loose mean mg mb h₀)
    (W : WS w L P FL TO TD RW o c bo ch it no n0 o1 o2 o3 q) (hE : IsErr w.params n1 EO RL PD) (hRL : (RL, listOf rvs.toArray nr) ∈ n1) (hRd : DatAll n1 rvs ((useR st nn ps.length ss.length ++ argR ps ss (min ss.length ps.length)).map rowD)) (hTN : ToldOk w n1 TN bs D svs ps ss st nn) (hD : IsNode0 w.params n1 D "var" 5 (.ref DT) dk dv) (hMA : IsTy0 w.params n1 MA num "proc" 0 (.ref bs) (.ref PL)) (hBs : IsTy0 w.params n1 bs nb (bfS nn) lb bb qb)
    (hPL : (PL, listOf pvs.toArray np) ∈ n1) (hP : Pars w.params n1 pvs ps) (hSL : (SL, listOf svs.toArray ns) ∈ n1) (hS : Sides w.params n1 svs ss) (hp4 : ps.length ≤ 4) (hs5 : ss.length ≤ 5)
    (hpo : PassesOwn (model Challenge.rw_nu0337_01.row.prog w) (callerA.deeper (envOfC "law" S44 L fa cd)) (envOfC "law" S44 L fa cd) E)
    (hret : ∀ h' tk', (∀ b o, h₀.get? b = some o → h'.get? b = some o) → Q (.ret (.bool true)) { s with heap := h', toks := tk' }) :
    wpAny (model Challenge.rw_nu0337_01.row.prog w) (callerA.deeper (envOfC "law" S44 L fa cd)) (execs T14 (envOfC "law" S44 L fa cd)) Q E s := by
  w_top off
  revert X
  k_fill
  intro X
  have m1 : (P, o) ∈ n1 := pk1.mem _ List.mem_cons_self
  have m2 : (TD, tysD w.params ts c tc known bo ch bt it ma ni no) ∈ n1 := pk1.mem _ (.tail _ (pk2.mem _ List.mem_cons_self))
  have m3 : ∀ p ∈ n0, p ∈ n1 := fun p hp => pk1.mem _ (.tail _ (pk2.mem _ (.tail _ hp)))
  refine IsErr.elim hE fun ed ets e1 e2 e3 e4 => ?_
  refine IsTy0.elim hMA fun d ts0 tn tf tl size fields level module label hidden exno h1 h2 => ?_
  refine IsTy0.elim hBs fun d' ts' tn' tf' tl' size' fields' level' module' label' hidden' exno' h1' h2' => ?_
  have s1 := W.s1
  have s2 := W.s2
  have s3 := W.s3
  have hsl := hS.1
  have hpl := hP.1
  have hmin : (if (pvs.length : Int) < (svs.length : Int) then (pvs.length : Int) else (svs.length : Int)) = ((min ss.length ps.length : Nat) : Int) := by split <;> omega
  k_with "exec For Name Call cons nil" =>
    (with_reducible show wpAny _ _ (exec F14 _) _ _ _)
    focus
      k_extra "LawFor"
      intro u dvs nd cvs nc tl h tk hdat hC y1 y2 y5 F' N'
      (try dsimp only)
  k_with "execs cons" =>
    (with_reducible show wpAny _ _ (execs T17 _) _ _ _)
    focus
      k_extra "LawBK2"
      exact fun h' tk' k => hret h' tk' k
  k_extra "MySteps"
end


theorem tick_lawt10 {prog : Program} {w : World} {A : Around} {env : Env} {E : Value → Shared → Prop} {s : Shared} {Q : Flow → Shared → Prop} (h : wpAny (model prog w) A (execs [] env) Q E s) : wpAny (model prog w) A (execs [] env) Q E s := by
  first | (walk1; fail) | exact h

theorem WS.next {w : World} {L P FL TO TD RW : Addr} {o o' : Obj} {c c' : Int} {bo ch it no : Addr} {n0 n1 : Led} {o1 o2 o3 : Obj} {q : Value} (W : WS w L P FL TO TD RW o c bo ch it no n0 o1 o2 o3 q) (hP : Pool FL o') (hs : ∀ p ∈ n0, p ∈ n1) (h1 : ∀ p ∈ n1, p.1 ≠ P) (h2 : ∀ p ∈ n1, p.1 ≠ TD) (k0 : 0 ≤ c') (k1 : c' ≤ 800) : WS w L P FL TO TD RW o' c' bo ch it no n1 o1 o2 o3 q :=
  ⟨hP, W.hF.mono hs, hs _ W.hTO, W.hRW.mono hs, W.tch.mono hs, W.tit.mono hs, W.tbo.mono hs, W.tno.mono hs, hs _ W.k1, W.d1, hs _ W.k2, W.d2, hs _ W.k3, W.d3, h1, h2, W.s3, k0, k1⟩
theorem fr6 {h₀ h : Heap} {L : Addr} {m : Str → Option Value} {x1 x2 x3 x4 x5 x6 : Str} {v1 v2 v3 v4 v5 v6 : Value} (F : Fr h₀ L h m) (h1 : m x1 = some v1) (h2 : m x2 = some v2) (h3 : m x3 = some v3) (h4 : m x4 = some v4) (h5 : m x5 = some v5) (h6 : m x6 = some v6) :
    Fr h₀ L h (fun y => if y = x1 then some v1 else if y = x2 then some v2 else if y = x3 then some v3 else if y = x4 then some v4 else if y = x5 then some v5 else if y = x6 then some v6 else m y) := by
  have e : (fun y => if y = x1 then some v1 else if y = x2 then some v2 else if y = x3 then some v3 else if y = x4 then some v4 else if y = x5 then some v5 else if y = x6 then some v6 else m y) = m := by
    funext y
    split
    · next e => rw [e, h1]
    next =>
      split
      · next e => rw [e, h2]
      next =>
        split
        · next e => rw [e, h3]
        next =>
          split
          · next e => rw [e, h4]
          next =>
            split
            · next e => rw [e, h5]
            next =>
              split
              · next e => rw [e, h6]
              next => rfl
  rw [e]; exact F

theorem word_66 : True := by
  k_with "LawBU" => (rename Rows _ _ _ _ _ => w9; (k_dflt (refine' law_bu ?B_q9 ?F_q9 ?X_q9 ?N_q9 ?pk1_q9 ?pk2_q9 ?T_q9 (WS.mono ?w1_q9 ?w2_q9 ?w3_q9 ?w4_q9) ?hE_q9 ?hRL_q9 ?hRd_q9 ?hTN_q9 ?_; (case B_q9 => k_asm); (case F_q9 => (refine' fr4 ?f0_q9 ?f1_q9 ?f2_q9 ?f3_q9 ?f4_q9; (case f0_q9 => k_asm); (case f1_q9 => exact rfl); (case f2_q9 => exact rfl); (case f3_q9 => exact rfl); (case f4_q9 => exact rfl))); (case X_q9 => k_asm); (case w1_q9 => assumption); (case N_q9 => k_asm); (case pk1_q9 => k_extra "MyPick"); (case pk2_q9 => k_extra "MyPick"); (case T_q9 => k_asm); (case w2_q9 => k_extra "MySub"); (case w3_q9 => k_extra "MySep"); (case w4_q9 => k_extra "MySep"); (case hE_q9 => k_extra "MyRel"); (case hRL_q9 => k_extra "MyMem"); (case hRd_q9 => exact w9.1.mono (by k_extra "MySub")); (case hTN_q9 => k_extra "MyRel"))))
  k_with "LawBK1" => (rename Rows _ _ _ _ _ => w9; (k_dflt (refine' law_bk1 ?B_q9 ?F_q9 ?X_q9 ?N_q9 ?pk1_q9 ?pk2_q9 ?T_q9 (WS.mono ?w1_q9 ?w2_q9 ?w3_q9 ?w4_q9) ?hE_q9 ?hRL_q9 ?hRd_q9 ?hTN_q9 ?hD_q9 ?hMA_q9 ?hBs_q9 ?hPL_q9 ?hP_q9 ?hSL_q9 ?hS_q9 ?hp4_q9 ?hs5_q9 ?hpo_q9 ?_; (case B_q9 => k_asm); (case F_q9 => (refine' fr6 ?f0_q9 ?f1_q9 ?f2_q9 ?f3_q9 ?f4_q9 ?f5_q9 ?f6_q9; (case f0_q9 => k_asm); (case f1_q9 => exact rfl); (case f2_q9 => exact rfl); (case f3_q9 => exact rfl); (case f4_q9 => exact rfl); (case f5_q9 => exact rfl); (case f6_q9 => exact rfl))); (case X_q9 => k_asm); (case w1_q9 => assumption); (case N_q9 => k_asm); (case pk1_q9 => k_extra "MyPick"); (case pk2_q9 => k_extra "MyPick"); (case T_q9 => k_asm); (case w2_q9 => k_extra "MySub"); (case w3_q9 => k_extra "MySep"); (case w4_q9 => k_extra "MySep"); (case hTN_q9 => exact ToldOk.mono (by assumption) (by k_extra "MySub")); (case hE_q9 => k_extra "MyRel"); (case hRL_q9 => k_extra "MyMem"); (case hRd_q9 => exact w9.1.mono (by k_extra "MySub")); (case hD_q9 => k_extra "MyRel"); (case hMA_q9 => k_extra "MyRel"); (case hBs_q9 => k_extra "MyRel"); (case hP_q9 => exact Pars.mono (by assumption) (by k_extra "MySub")); (case hPL_q9 => k_extra "MyMem"); (case hS_q9 => exact Sides.mono (by assumption) (by k_extra "MySub")); (case hSL_q9 => k_extra "MyMem"); (case hp4_q9 => assumption); (case hs5_q9 => assumption); (case hpo_q9 => assumption))))
  trivial
section
set_option maxRecDepth 100000 in
set_option maxHeartbeats 4000000 in
theorem law_t10u {w : World} {fa : Addr} {cd : Value} {p : Program} {loose : List Str} {mean : ExcName → Option Value} {mg mb : Str → Option Value} {h₀ : Heap} {L : Addr} {m : Str → Option Value} {n0 : Led} {P FL TO TD RW : Addr} {o o1 o2 o3 : Obj} {ts : Nat → Tok} {c : Int} {tc : Tok} {known : Value} {bo ch bt it : Addr} {ma ni : Value} {no : Addr} {q : Value}
    {SL : Addr} {st : Bool} {s : Shared} {Q : Flow → Shared → Prop} {E : Value → Shared → Prop}
    (B : Below callerA h₀ [] h₀) (F : Fr h₀ L s.heap (fun y => if y = Str.ofString "known_x" then some (.bool false) else if y = Str.ofString "as_statement" then some (.bool st) else if y = Str.ofString "sides" then some (.ref SL) else m y)) (X : (KK w.params).In h₀) (N : News h₀ L s.heap ((P, o) :: (TD, tysD w.params ts c tc known bo ch bt it ma ni no) :: n0)) (T : Top p loose mean mg mb h₀)
    (W : WS w L P FL TO TD RW o c bo ch it no n0 o1 o2 o3 q)
    (hret : ∀ h' tk', (∀ b o, h₀.get? b = some o → h'.get? b = some o) → Q (.ret (.bool true)) { s with heap := h', toks := tk' }) :
    wpAny (model Challenge.rw_nu0337_01.row.prog w) (callerA.deeper (envOfC "law" S44 L fa cd)) (execs T10 (envOfC "law" S44 L fa cd)) Q E s := by
  w_top off
  revert X
  k_fill
  intro X
  have W0 := W
  obtain ⟨hP, hF, hTO, hRW, tch, tit, tbo, tno, k1, d1, k2, d2, k3, d3, s1, s2, s3, c1, c2⟩ := W
  k_with "call ref" =>
    (with_reducible show wpAny _ _ (call (Value.ref 218) _) _ _ _)
    focus
      k_dflt (refine' Spec.useC (call_np_spec w _ _ _ _ _ _ _ _ _ _ _ _ _ _ _ ?h1 ?h2 ?h3 ?h4 ?h5 ?h6 ?h7) call_np_cps ?k1 ?k2 ?k3 ?k4 ?k5 ?k6 ?k7 ?k8 ?_; (case k1 => k_asm); (case k2 => k_asm); (case k3 => k_asm); (case k4 => (refine' Pick.two (by assumption) ?k40 ?k41; (case k40 => k_extra "MyPick"); (case k41 => k_extra "MyPick"))); (case k5 => k_asm); (case k6 => exact rfl); (case k7 => exact Nat.le_of_ble_eq_true rfl); (case k8 => exact Nat.le_of_ble_eq_true rfl); (case h3 => (refine' Rows.mono ?h30 ?h31; (case h30 => assumption); (case h31 => exact List.forall_mem_nil _))); (case h1 => exact HasTypes.of (by k_extra "MyMem") (by k_extra "MyMem") (by k_extra "MyRel") (by k_extra "MyRel") (by k_extra "MyRel")); (case h2 => k_extra "MyRel"); (case h4 => k_extra "MySep"); (case h5 => k_extra "MySep"); (case h6 => k_extra "MyRel"); (case h7 => k_extra "MyRel"); k_whole)
      intro a tla vsa na oa ba wa ty kids v na9 h9 tk9 F9 N9
      (try k_sweep); (try dsimp only); (try k_fold)
  k_with "execs cons" =>
    (with_reducible show wpAny _ _ (execs T14 _) _ _ _)
    focus
      k_extra "LawBU"
      exact fun h' tk' k => hret h' tk' k
  k_extra "MySteps"
end


theorem tick_lawt10k {prog : Program} {w : World} {A : Around} {env : Env} {E : Value → Shared → Prop} {s : Shared} {Q : Flow → Shared → Prop} (h : wpAny (model prog w) A (execs [] env) Q E s) : wpAny (model prog w) A (execs [] env) Q E s := by
  first | (walk1; fail) | exact h

theorem fr3 {h₀ h : Heap} {L : Addr} {m : Str → Option Value} {x1 x2 x3 : Str} {v1 v2 v3 : Value} (F : Fr h₀ L h m) (h1 : m x1 = some v1) (h2 : m x2 = some v2) (h3 : m x3 = some v3) :
    Fr h₀ L h (fun y => if y = x1 then some v1 else if y = x2 then some v2 else if y = x3 then some v3 else m y) := by
  have e : (fun y => if y = x1 then some v1 else if y = x2 then some v2 else if y = x3 then some v3 else m y) = m := by
    funext y
    split
    · next e => rw [e, h1]
    next =>
      split
      · next e => rw [e, h2]
      next =>
        split
        · next e => rw [e, h3]
        next => rfl
  rw [e]; exact F

theorem ToldOk.of {w : World} {led : Led} {TN bs D : Addr} {svs : List Value} {ps : List ParD} {ss : List SD} {st nn : Bool} (h : if st = false ∧ nn = true then ∃ ty kids v, IsNode0 w.params led TN "const" 9 (.ref ty) kids v
  else ∃ KL kvs nk, IsNode0 w.params led TN "call" 9 (if st then .none else .ref bs) (.ref KL) .none ∧ (KL, listOf kvs.toArray nk) ∈ led ∧ Kids w.params led D kvs svs ps ss (min ss.length ps.length)) : ToldOk w led TN bs D svs ps ss st nn := h
section
set_option maxRecDepth 100000 in
set_option maxHeartbeats 4000000 in
theorem law_t10k {w : World} {fa : Addr} {cd : Value} {p : Program} {loose : List Str} {mean : ExcName → Option Value} {mg mb : Str → Option Value} {h₀ : Heap} {L : Addr} {m : Str → Option Value} {n0 : Led} {P FL TO TD RW : Addr} {o o1 o2 o3 : Obj} {ts : Nat → Tok} {c : Int} {tc : Tok} {known : Value} {bo ch bt it : Addr} {ma ni : Value} {no : Addr} {q : Value}
    {MA PL SL bs : Addr} {pvs svs : List Value} {np ns : Nat} {st nn : Bool} {ps : List ParD} {ss : List SD} {num nb lb : Int} {bb qb : Value} {s : Shared} {Q : Flow → Shared → Prop} {E : Value → Shared → Prop}
    (B : Below callerA h₀ [] h₀) (F : Fr h₀ L s.heap (fun y => if y = Str.ofString "known_x" then some (.bool true) else if y = Str.ofString "as_statement" then some (.bool st) else if y = Str.ofString "made" then some (.ref MA) else if y = Str.ofString "sides" then some (.ref SL) else m y)) (X : (KK w.params).In h₀) (N : News h₀ L s.heap ((P, o) :: (TD, tysD w.params ts c tc known bo ch bt it ma ni no) :: n0)) (T : Top p loose mean mg mb h₀)
    (W : WS w L P FL TO TD RW o c bo ch it no n0 o1 o2 o3 q) (hMA : IsTy0 w.params n0 MA num "proc" 0 (.ref bs) (.ref PL)) (hBs : IsTy0 w.params n0 bs nb (bfS nn) lb bb qb)
    (hPL : (PL, listOf pvs.toArray np) ∈ n0) (hP' : Pars w.params n0 pvs ps) (hSL : (SL, listOf svs.toArray ns) ∈ n0) (hS : Sides w.params n0 svs ss) (hp4 : ps.length ≤ 4) (hs5 : ss.length ≤ 5)
    (hpo : PassesOwn (model Challenge.rw_nu0337_01.row.prog w) (callerA.deeper (envOfC "law" S44 L fa cd)) (envOfC "law" S44 L fa cd) E)
    (hret : ∀ h' tk', (∀ b o, h₀.get? b = some o → h'.get? b = some o) → Q (.ret (.bool true)) { s with heap := h', toks := tk' }) :
    wpAny (model Challenge.rw_nu0337_01.row.prog w) (callerA.deeper (envOfC "law" S44 L fa cd)) (execs T10 (envOfC "law" S44 L fa cd)) Q E s := by
  w_top off
  revert X
  k_fill
  intro X
  have W0 := W
  obtain ⟨hP, hF, hTO, hRW, tch, tit, tbo, tno, k1, d1, k2, d2, k3, d3, s1, s2, s3, c1, c2⟩ := W
  k_with "call ref" =>
    (with_reducible show wpAny _ _ (call (Value.ref 218) _) _ _ _)
    focus
      k_dflt (refine' Spec.useC (call_proc_spec w _ _ _ _ _ _ _ bs PL _ _ _ _ pvs svs np ns num nb lb bb qb _ _ _ nn _ ps ss ?h1 ?h2 ?h3 ?h4 ?h5 ?h6 ?h7 ?h8 ?h9 ?h10 ?h11 ?h12 hp4 hs5) call_proc_cps ?k1 ?k2 ?k3 ?k4 ?k5 ?k6 ?k7 ?k8 ?_; (case k1 => k_asm); (case k2 => k_asm); (case k3 => k_asm); (case k4 => (refine' Pick.two (by assumption) ?k40 ?k41; (case k40 => k_extra "MyPick"); (case k41 => k_extra "MyPick"))); (case k5 => k_asm); (case k6 => exact rfl); (case k7 => exact Nat.le_of_ble_eq_true rfl); (case k8 => exact Nat.le_of_ble_eq_true rfl); (case h3 => (refine' Rows.mono ?h30 ?h31; (case h30 => assumption); (case h31 => exact List.forall_mem_nil _))); (case h1 => exact HasTypes.of (by k_extra "MyMem") (by k_extra "MyMem") (by k_extra "MyRel") (by k_extra "MyRel") (by k_extra "MyRel")); (case h2 => k_extra "MyRel"); (case h4 => k_extra "MySep"); (case h5 => k_extra "MySep"); (case h6 => k_extra "MyRel"); (case h7 => k_extra "MyRel"); (case h8 => k_extra "MyRel"); (case h9 => k_extra "MyMem"); (case h10 => exact Pars.mono (by assumption) (by k_extra "MySub")); (case h11 => k_extra "MyMem"); (case h12 => exact Sides.mono (by assumption) (by k_extra "MySub")); k_whole)
      intro a tla vsa na oa ba wa hTN h9 tk9 F9 N9
      (have hTN9 := ToldOk.of hTN)
      (clear hTN)
      (try k_sweep); (try dsimp only); (try k_fold)
  k_with "execs cons" =>
    (with_reducible show wpAny _ _ (execs T14 _) _ _ _)
    focus
      k_extra "LawBK1"
      exact fun h' tk' k => hret h' tk' k
  k_extra "MySteps"
end
theorem law_t10 {w : World} {fa : Addr} {cd : Value} {p : Program} {loose : List Str} {mean : ExcName → Option Value} {mg mb : Str → Option Value} {h₀ : Heap} {L : Addr} {m : Str → Option Value} {n0 : Led} {P FL TO TD RW : Addr} {o o1 o2 o3 : Obj} {ts : Nat → Tok} {c : Int} {tc : Tok} {known : Value} {bo ch bt it : Addr} {ma ni : Value} {no : Addr} {q : Value}
    {MA PL SL bs : Addr} {pvs svs : List Value} {np ns : Nat} {kx st nn : Bool} {ps : List ParD} {ss : List SD} {num nb lb : Int} {bb qb : Value} {s : Shared} {Q : Flow → Shared → Prop} {E : Value → Shared → Prop}
    (B : Below callerA h₀ [] h₀) (F : Fr h₀ L s.heap (fun y => if y = Str.ofString "known_x" then some (.bool kx) else if y = Str.ofString "as_statement" then some (.bool st) else if y = Str.ofString "made" then some (.ref MA) else if y = Str.ofString "sides" then some (.ref SL) else m y)) (X : (KK w.params).In h₀) (N : News h₀ L s.heap ((P, o) :: (TD, tysD w.params ts c tc known bo ch bt it ma ni no) :: n0)) (T : Top p loose mean mg mb h₀)
    (W : WS w L P FL TO TD RW o c bo ch it no n0 o1 o2 o3 q) (hMA : IsTy0 w.params n0 MA num "proc" 0 (.ref bs) (.ref PL)) (hBs : IsTy0 w.params n0 bs nb (bfS nn) lb bb qb)
    (hPL : (PL, listOf pvs.toArray np) ∈ n0) (hP' : Pars w.params n0 pvs ps) (hSL : (SL, listOf svs.toArray ns) ∈ n0) (hS : Sides w.params n0 svs ss) (hp4 : ps.length ≤ 4) (hs5 : ss.length ≤ 5)
    (hpo : PassesOwn (model Challenge.rw_nu0337_01.row.prog w) (callerA.deeper (envOfC "law" S44 L fa cd)) (envOfC "law" S44 L fa cd) E)
    (hret : ∀ h' tk', (∀ b o, h₀.get? b = some o → h'.get? b = some o) → Q (.ret (.bool true)) { s with heap := h', toks := tk' }) :
    wpAny (model Challenge.rw_nu0337_01.row.prog w) (callerA.deeper (envOfC "law" S44 L fa cd)) (execs T10 (envOfC "law" S44 L fa cd)) Q E s := by
  cases kx
  · exact law_t10u B (fr3 F (by exact rfl) (by exact rfl) (by exact rfl)) X N T W hret
  · exact law_t10k B F X N T W hMA hBs hPL hP' hSL hS hp4 hs5 hpo hret


theorem tick_lawt6 {prog : Program} {w : World} {A : Around} {env : Env} {E : Value → Shared → Prop} {s : Shared} {Q : Flow → Shared → Prop} (h : wpAny (model prog w) A (execs [] env) Q E s) : wpAny (model prog w) A (execs [] env) Q E s := by
  first | (walk1; fail) | exact h

section
variable {prog : Program} {w : World} {A : Around} {E : Value → Shared → Prop} {s : Shared} {h₀ : Heap} {L : Addr} {news : Led} {value slice : PySem.Expr} {l : Addr} {n : Nat} {k : Int} {u : Tok} {Q : Value → Shared → Prop}
theorem two_item {a b : Addr} (N : News h₀ L s.heap news) (hm : (l, listOf [Value.ref a, Value.ref b].toArray n) ∈ news) (h0 : 0 ≤ k) (h2 : k < 2) (h : ∀ (bs : Addr) (nn : Bool), (nn = true → bs = a) → (nn = false → bs = b) → Q (.ref bs) s)
    (hs : subscripted slice false (.ref l) (.int k u) = operate [.ref l, .int k u] (getItem (.ref l) (.int k u)) := by with_unfolding_all rfl) :
    wpAny (model prog w) A (subscriptTail value slice (.ref l) (.int k u)) Q E s := by
  by_cases e : k = 0
  · subst e
    exact item_led N hm (by omega) (by omega) rfl (h a true (fun _ => rfl) (fun e => nomatch e)) hs
  · obtain rfl : k = 1 := by omega
    exact item_led N hm (by omega) (by omega) rfl (h b false (fun e => nomatch e) (fun _ => rfl)) hs
theorem five_item {x1 x2 x3 x4 x5 : Int} {t1 t2 t3 t4 t5 : Tok} (N : News h₀ L s.heap news) (hm : (l, listOf [Value.int x1 t1, Value.int x2 t2, Value.int x3 t3, Value.int x4 t4, Value.int x5 t5].toArray n) ∈ news) (h0 : 0 ≤ k) (h5 : k < 5)
    (y1 : -1 ≤ x1 ∧ x1 ≤ 1) (y2 : -1 ≤ x2 ∧ x2 ≤ 1) (y3 : -1 ≤ x3 ∧ x3 ≤ 1) (y4 : -1 ≤ x4 ∧ x4 ≤ 1) (y5 : -1 ≤ x5 ∧ x5 ≤ 1) (h : ∀ (x : Int) (t : Tok), -1 ≤ x → x ≤ 1 → Q (.int x t) s)
    (hs : subscripted slice false (.ref l) (.int k u) = operate [.ref l, .int k u] (getItem (.ref l) (.int k u)) := by with_unfolding_all rfl) :
    wpAny (model prog w) A (subscriptTail value slice (.ref l) (.int k u)) Q E s := by
  rcases (by omega : k = 0 ∨ k = 1 ∨ k = 2 ∨ k = 3 ∨ k = 4) with rfl | rfl | rfl | rfl | rfl
  · exact item_led N hm (by omega) (by omega) rfl (h _ _ y1.1 y1.2) hs
  · exact item_led N hm (by omega) (by omega) rfl (h _ _ y2.1 y2.2) hs
  · exact item_led N hm (by omega) (by omega) rfl (h _ _ y3.1 y3.2) hs
  · exact item_led N hm (by omega) (by omega) rfl (h _ _ y4.1 y4.2) hs
  · exact item_led N hm (by omega) (by omega) rfl (h _ _ y5.1 y5.2) hs
end
theorem off_ne {d a : Addr} {o : Obj} {l : Led} (h : ∀ p ∈ l, p.1 ≠ d) (hm : (a, o) ∈ l) : @Ne Nat d a := fun e => h _ hm e.symm
theorem word_67 : True := by
  k_with "MyNe" => first | assumption | (refine neN ?_; (try dsimp only); first | assumption | exact Ne.symm (by assumption) | exact Nat.ne_of_lt (by k_extra "MyLt1") | exact Nat.ne_of_gt (by k_extra "MyLt1") | exact ne_up (by assumption) (by k_extra "MyMem") | exact ne_dn (by assumption) (by k_extra "MyMem") | exact off_ne (by assumption) (by k_extra "MyMem") | exact Ne.symm (off_ne (by assumption) (by k_extra "MyMem")))
  trivial
theorem getD_le {xs : List Int} {k : Nat} (h : ∀ x ∈ xs, x ≤ 1) : xs.getD k 0 ≤ 1 := by
  rw [List.getD_eq_getElem?_getD]
  by_cases hk : k < xs.length
  · rw [List.getElem?_eq_getElem hk]
    exact h _ (List.getElem_mem hk)
  · rw [List.getElem?_eq_none (by omega)]
    decide
theorem max_in {n v : Int} (h4 : n ≤ 4) (hv : v ≤ 1) : (if n + v > 0 then n + v else 0) ≤ 5 ∧ 0 ≤ (if n + v > 0 then n + v else 0) := by
  split <;> omega
local macro_rules | `(tactic| walk_at "CompSrc") => `(tactic| k_extra "CompSrc")
local macro_rules | `(tactic| walk_at "Exists") => `(tactic| k_extra "Exists")
theorem word_68 : True := by
  k_with "call ref" => (k_here; (with_reducible show wpAny _ _ (call (Value.ref 366) _) _ _ _); k_dflt (refine' Spec.useC (side_spec _ _ _ _ _ _ _ _ _ _ _ _ _ _ _ _ _ _ _ _ _ _ ?h1_q9 ?h2_q9 ?h3_q9 ?h4_q9 ?h5_q9 ?h6_q9 ?h7_q9 ?h8_q9 ?h9_q9 ?h10_q9) side_cps ?k1_q9 ?k2_q9 ?k3_q9 ?k4_q9 ?k5_q9 ?k6_q9 ?k7_q9 ?k8_q9 ?_; (case k1_q9 => k_asm); (case k2_q9 => k_asm); (case k3_q9 => k_asm); (case k4_q9 => (refine' Pick.two (by assumption) ?k40_q9 ?k41_q9; (case k40_q9 => k_extra "MyPick"); (case k41_q9 => k_extra "MyPick"))); (case h1_q9 => k_extra "MyMem"); (case h2_q9 => assumption); (case h5_q9 => assumption); (case k5_q9 => k_asm); (case k6_q9 => first | exact rfl | assumption); (case k7_q9 => exact Nat.le_of_ble_eq_true rfl); (case k8_q9 => exact Nat.le_of_ble_eq_true rfl); (case h3_q9 => first | assumption | exact Figs.mono (by assumption) (by k_extra "MySub")); (case h4_q9 => k_extra "MySub"); (case h6_q9 => k_extra "MySep"); (case h7_q9 => k_extra "MySep"); (case h8_q9 => k_extra "MyNe"); (case h9_q9 => omega); (case h10_q9 => omega); k_whole; intro a9 o9 c9 tc9 tl9 sd9 b9 y9 y8 p9 k91 k92 i9 h9 tk9 F9 N9; (try k_sweep); (try dsimp only); (try k_fold)))
  k_with "LawT10" => (k_dflt (refine' law_t10 ?B_q9 ?F_q9 ?X_q9 ?N_q9 ?T_q9 (WS.next ?w1_q9 ?w5_q9 ?w2_q9 ?w3_q9 ?w4_q9 ?w6_q9 ?w7_q9) ?hMA_q9 ?hBs_q9 ?hPL_q9 ?hP_q9 ?hSL_q9 ?hS_q9 ?hp4_q9 ?hs5_q9 ?hpo_q9 ?_; (case B_q9 => k_asm); (case F_q9 => (refine' fr4 ?f0_q9 ?f1_q9 ?f2_q9 ?f3_q9 ?f4_q9; (case f0_q9 => k_asm); (case f1_q9 => exact rfl); (case f2_q9 => exact rfl); (case f3_q9 => exact rfl); (case f4_q9 => exact rfl))); (case X_q9 => k_asm); (case w1_q9 => assumption); (case N_q9 => (refine' Pick.two (by assumption) ?k40_q9 ?k41_q9; (case k40_q9 => k_extra "MyPick"); (case k41_q9 => k_extra "MyPick"))); (case T_q9 => k_asm); (case w5_q9 => assumption); (case w2_q9 => k_extra "MySub"); (case w3_q9 => k_extra "MySep"); (case w4_q9 => k_extra "MySep"); (case w6_q9 => omega); (case w7_q9 => omega); (case hMA_q9 => k_extra "MyRel"); (case hBs_q9 => k_extra "MyRel"); (case hP_q9 => exact Pars.mono (by assumption) (by k_extra "MySub")); (case hPL_q9 => k_extra "MyMem"); (case hS_q9 => exact Sides.mono (by assumption) (by k_extra "MySub")); (case hSL_q9 => k_extra "MyMem"); (case hp4_q9 => assumption); (case hs5_q9 => assumption); (case hpo_q9 => assumption)))
  trivial
section
set_option maxRecDepth 100000 in
set_option maxHeartbeats 4000000 in
theorem law_t6 {w : World} {fa : Addr} {cd : Value} {p : Program} {loose : List Str} {mean : ExcName → Option Value} {mg mb : Str → Option Value} {h₀ : Heap} {L : Addr} {m : Str → Option Value} {n0 : Led} {P FL TO TD RW : Addr} {o o1 o2 o3 : Obj} {ts : Nat → Tok} {c : Int} {tc : Tok} {known : Value} {bo ch bt it : Addr} {ma ni : Value} {no : Addr} {q : Value}
    {MA PL bs : Addr} {pvs : List Value} {np : Nat} {nn : Bool} {ps : List ParD} {num nb lb : Int} {bb qb : Value} {s : Shared} {Q : Flow → Shared → Prop} {E : Value → Shared → Prop}
    (B : Below callerA h₀ [] h₀) (F : Fr h₀ L s.heap (fun y => if y = Str.ofString "made" then some (.ref MA) else m y)) (X : (KK w.params).In h₀) (N : News h₀ L s.heap ((P, o) :: (TD, tysD w.params ts c tc known bo ch bt it ma ni no) :: n0)) (T : Top p loose mean mg mb h₀)
    (W : WS w L P FL TO TD RW o c bo ch it no n0 o1 o2 o3 q) (hc : c ≤ 700) (hMA : IsTy0 w.params n0 MA num "proc" 0 (.ref bs) (.ref PL)) (hBs : IsTy0 w.params n0 bs nb (bfS nn) lb bb qb)
    (hPL : (PL, listOf pvs.toArray np) ∈ n0) (hP' : Pars w.params n0 pvs ps) (hp4 : ps.length ≤ 4)
    (hpo : PassesOwn (model Challenge.rw_nu0337_01.row.prog w) (callerA.deeper (envOfC "law" S44 L fa cd)) (envOfC "law" S44 L fa cd) E)
    (hret : ∀ h' tk', (∀ b o, h₀.get? b = some o → h'.get? b = some o) → Q (.ret (.bool true)) { s with heap := h', toks := tk' }) :
    wpAny (model Challenge.rw_nu0337_01.row.prog w) (callerA.deeper (envOfC "law" S44 L fa cd)) (execs T6 (envOfC "law" S44 L fa cd)) Q E s := by
  w_top off
  revert X
  k_fill
  intro X
  have W0 := W
  obtain ⟨hP, hF, hTO, hRW, tch, tit, tbo, tno, k1, d1, k2, d2, k3, d3, s1, s2, s3, c1, c2⟩ := W
  refine IsTy0.elim hMA fun d ts0 tn tf tl0 size fields level module label hidden exno h1 h2 => ?_
  have hpl := hP'.1
  k_with "subscriptTail" =>
    (with_reducible show wpAny _ _ (subscriptTail _ _ (Value.ref _) (Value.int _ _)) _ _ _)
    (k_dflt (refine' five_item ?N ?hm ?h0 ?h5 (by decide) (by decide) (by decide) (by decide) (by decide) ?_; (case N => k_asm); (case hm => k_mem); (case h0 => omega); (case h5 => omega); k_whole))
    (intro more tmore m1 m2)
  k_with "exec Assign cons ListComp" => ((with_reducible show wpAny _ _ (exec (Stmt.Assign [Expr.Name _ _] _ _) _) _ _ _); k_dflt (refine LCg.Assign_ListComp_U (F₀ := by k_asm) (by rfl) (by with_unfolding_all rfl) (by with_unfolding_all rfl) (by decide) (by rfl) (by decide) (by rfl) (by rfl) (by rfl) ?_))
  k_with "CompSrc" =>
    (with_reducible show LCg.CompSrc _ _ _ _ _ _ _ (PySem.Expr.Call (PySem.Expr.Name (Str.ofString "_law_side") _) _ _ _) _ _ _ _ _ _)
    focus
      k_dflt (refine' side_comp (P := P) (FL := FL) (TD := TD) rfl ?F ?N ?pk ?pk' ?hr ?hb ?hb0 ?hP ?turn ?fin; (case F => k_asm); (case N => k_asm); (case pk => k_extra "MyPick"); (case pk' => k_extra "MyPick"); (case hr => k_asm); (case hb => exact (max_in (by omega) (getD_le (by decide))).1); (case hb0 => exact (max_in (by omega) (getD_le (by decide))).2); (case hP => assumption))
      (case' turn => (intro ci ck cI coI cC coC cD cm cys co cc ctc ctl css chh ctk cE z0 z1 z2 z3 z4 z5 z6 z7 z8 z9 z10 cF cN z11 z12 z13 z14 z15 z16 z17 z18 z19 z20; subst z8))
      (case' fin => (intro cg ys co cc ctc tl ss z1 z2 z3 z4 z5 z6 hSs hsl; unfold LCg.FinA; intro SL chh ctk cF cN coff; (have coff := off1_mem coff); (have ne91 := off_ne coff List.mem_cons_self); (have ne92 := off_ne coff (List.mem_cons_of_mem _ List.mem_cons_self)); (have hs50 : (ss.length : Int) ≤ 5 := by (rw [hsl]; k_dflt (exact (max_in (by omega) (getD_le (by decide))).1))); (have hs5 : ss.length ≤ 5 := by omega)))
  k_with "Exists" =>
    focus
      k_dflt (refine' side_end ?hs0 ?F ?N ?hoff ?b1 ?y1 ?y2 ?hSs ?b9 ?y9 ?y8 ?hP ?k1 ?k2 ?k3 ?k4 ?hS; (case N => k_asm); (case F => k_asm); (case hS => assumption); (case hs0 => k_extra "MySub"); (case hoff => assumption); (case b1 => assumption); (case y1 => assumption); (case y2 => assumption); (case hSs => assumption); (case b9 => assumption); (case y9 => assumption); (case y8 => assumption); (case hP => assumption); (case k1 => assumption); (case k2 => assumption); (case k3 => assumption); (case k4 => assumption))
  k_with "execs cons" =>
    (with_reducible show wpAny _ _ (execs T10 _) _ _ _)
    focus
      k_extra "LawT10"
      exact fun h' tk' k => hret h' tk' k
  k_extra "MySteps"
end


theorem tick_law {prog : Program} {w : World} {A : Around} {env : Env} {E : Value → Shared → Prop} {s : Shared} {Q : Flow → Shared → Prop} (h : wpAny (model prog w) A (execs [] env) Q E s) : wpAny (model prog w) A (execs [] env) Q E s := by
  first | (walk1; fail) | exact h

theorem law_news {h₀ h h' : Heap} {L : Addr} {new cells : Led} (N : News h₀ L h cells) (keep : ∀ b o, h.get? b = some o → h'.get? b = some o) (N' : News h₀ L h' new) : News h₀ L h' (new ++ cells) := fun p hp => by
  rcases List.mem_append.mp hp with hp | hp
  · exact N' p hp
  · exact N.grown keep p hp
theorem cell_ne {h₀ h' : Heap} {L a c : Addr} {o oc : Obj} {v : Option Value} {all : Led} (N : News h₀ L h' all) (ha : (a, o) ∈ all) (hc : (c, oc) ∈ all) (hd : oc.data = .cell v) (ho : ∃ vs n, o.data = .seq vs n) : @Ne Nat a c := by
  intro e
  obtain ⟨vs, n, ho⟩ := ho
  have h1 := (N _ ha).1
  have h2 := (N _ hc).1
  dsimp only at h1 h2
  rw [show a = c from e, h2] at h1
  obtain rfl := Option.some.inj h1
  rw [ho] at hd
  cases hd
theorem Pool.seq {FL : Addr} {o : Obj} (h : Pool FL o) : ∃ vs n, o.data = .seq vs n := by
  obtain ⟨i, ti, mix, tm, k, rfl, _⟩ := h
  exact ⟨_, _, rfl⟩

theorem FigsAre.figs {fvs : List Value} {FL : Addr} {nf : Nat} (h : FigsAre fvs 460) : Figs [(FL, listOf fvs.toArray nf)] FL := by
  obtain ⟨figs, h1, h2, h3⟩ := h
  exact ⟨fvs, nf, figs, List.mem_cons_self, h1, by omega, h3⟩
theorem pool_use {w : World} {scr : Addr} {vs : List Value} {ns : List Int} {o1 o2 o3 : Obj} {c1 c2 c3 : Addr} {p : Program} {loose : List Str} {mean : ExcName → Option Value} {mg mb : Str → Option Value} {dp un : Nat} {gd : Option (List Code)} {cn : Str} {cs : Scope} {a : Addr} {ccd : Value} {cl : List (Str × Addr)} {outer : List Env} {A₀ : Around} {base h₀ : Heap} {L : Addr} {m : Str → Option Value} {s : Shared} {Q E : Value → Shared → Prop}
    (hi : IntsAre vs ns) (hn : vs.length ≤ 1000) (B : Below A₀ base outer h₀) (F : Fr h₀ L s.heap m) (X : (KK w.params).In h₀) (N : News h₀ L s.heap [(c3, o3), (c2, o2), (c1, o1)]) (T : Top p loose mean mg mb h₀) (hk : cs.kind = .function) (hl : base.IsList scr vs.toArray) (hd : dp ≤ 900) (hu : un ≤ 9000) (hc : ∀ q ∈ [(c3, o3), (c2, o2), (c1, o1)], ∃ v, q.2.data = .cell v)
    (ret : ∀ (P FL : Addr) (o : Obj) (fvs : List Value) (nf : Nat) (h' : Heap) (tk' : Nat), Pool FL o → Figs [(FL, listOf fvs.toArray nf)] FL → @LT.lt Nat _ FL P → (@Ne Nat P c3) → (@Ne Nat P c2) → (@Ne Nat P c1) → (@Ne Nat FL c3) → (@Ne Nat FL c2) → (@Ne Nat FL c1) → Fr h₀ L h' m → News h₀ L h' [(P, o), (FL, listOf fvs.toArray nf), (c3, o3), (c2, o2), (c1, o1)] → Q (.ref P) { s with heap := h', toks := tk' }) :
    wpAny (model Challenge.rw_nu0337_01.row.prog w) (ktrTop dp un gd cn cs L a ccd cl outer) (call (.ref 345) [.ref scr]) Q E s := by
  refine pool_call w scr vs ns hi hn p loose mean mg mb dp un gd cn cs a ccd cl outer A₀ base h₀ L m s Q E B F X (fun _ h => nomatch h) T hk hl hd hu fun P FL o fvs nf h' tk' hP hF hlt keep F' N' => ?_
  have N9 := law_news N keep N'
  have e1 : ∀ q ∈ [(c3, o3), (c2, o2), (c1, o1)], @Ne Nat P q.1 := fun q hq => by
    obtain ⟨v, hv⟩ := hc q hq
    exact cell_ne N9 List.mem_cons_self (.tail _ (.tail _ hq)) hv hP.seq
  have e2 : ∀ q ∈ [(c3, o3), (c2, o2), (c1, o1)], @Ne Nat FL q.1 := fun q hq => by
    obtain ⟨v, hv⟩ := hc q hq
    exact cell_ne N9 (.tail _ List.mem_cons_self) (.tail _ (.tail _ hq)) hv ⟨_, _, rfl⟩
  have m3 : (c3, o3) ∈ [(c3, o3), (c2, o2), (c1, o1)] := List.mem_cons_self
  have m2 : (c2, o2) ∈ [(c3, o3), (c2, o2), (c1, o1)] := .tail _ List.mem_cons_self
  have m1 : (c1, o1) ∈ [(c3, o3), (c2, o2), (c1, o1)] := .tail _ (.tail _ List.mem_cons_self)
  exact ret P FL o fvs nf h' tk' hP hF.figs hlt (e1 _ m3) (e1 _ m2) (e1 _ m1) (e2 _ m3) (e2 _ m2) (e2 _ m1) F' N9
theorem cells_ok {a b c : Addr} {o1 o2 o3 : Obj} {v1 v2 v3 : Option Value} (d1 : o1.data = .cell v1) (d2 : o2.data = .cell v2) (d3 : o3.data = .cell v3) : ∀ q ∈ [(a, o3), (b, o2), (c, o1)], ∃ v, q.2.data = .cell v := by
  intro q hq
  simp only [List.mem_cons, List.not_mem_nil, or_false] at hq
  rcases hq with rfl | rfl | rfl
  · exact ⟨_, d3⟩
  · exact ⟨_, d2⟩
  · exact ⟨_, d1⟩

theorem base_of {P : Params} {led : Led} {no it bs : Addr} {nn : Bool} {q : Value} (z95 : IsTy0 P led no 7 "none" 0 .none q) (z94 : IsTy P led it .int) (e1 : nn = true → bs = no) (e2 : nn = false → bs = it) : ∃ nb lb bb qb, IsTy0 P led bs nb (bfS nn) lb bb qb := by
  cases nn
  · obtain rfl := e2 rfl
    obtain ⟨b, q, h, _⟩ := z94
    exact ⟨_, _, _, _, h⟩
  · obtain rfl := e1 rfl
    exact ⟨_, _, _, _, z95⟩


theorem word_69 : True := by
  k_with "call ref" => (k_here; (with_reducible show wpAny _ _ (call (Value.ref 373) _) _ _ _); k_dflt (refine' Spec.useC (param_spec _ _ _ _ _ _ _ _ ?h1_q9 ?h2_q9 ?h3_q9 ?h4_q9 ?h5_q9) param_cps ?k1_q9 ?k2_q9 ?k3_q9 ?k4_q9 ?k5_q9 ?k6_q9 ?k7_q9 ?k8_q9 ?_; (case k1_q9 => k_asm); (case k2_q9 => k_asm); (case k3_q9 => k_asm); (case k4_q9 => (refine' Pick.one (by assumption) ?k40_q9; (case k40_q9 => k_extra "MyPick"))); (case h1_q9 => assumption); (case h4_q9 => assumption); (case k5_q9 => k_asm); (case k6_q9 => first | exact rfl | assumption); (case k7_q9 => exact Nat.le_of_ble_eq_true rfl); (case k8_q9 => exact Nat.le_of_ble_eq_true rfl); (case h2_q9 => first | assumption | exact Figs.mono (by assumption) (by k_extra "MySub")); (case h3_q9 => k_extra "MySub"); (case h5_q9 => k_extra "MySep"); k_whole; intro a9 o9 tl9 t9 pd9 b9 y9 p9 i9 n9 h9 tk9 F9 N9; (try k_sweep); (try dsimp only); (try k_fold)))
  trivial
theorem fr1 {h₀ h : Heap} {L : Addr} {m : Str → Option Value} {x1 : Str} {v1 : Value} (F : Fr h₀ L h m) (h1 : m x1 = some v1) : Fr h₀ L h (fun y => if y = x1 then some v1 else m y) := by
  have e : (fun y => if y = x1 then some v1 else m y) = m := by
    funext y
    split
    · next e => rw [e, h1]
    next => rfl
  rw [e]; exact F
section
set_option maxRecDepth 100000 in
set_option maxHeartbeats 4000000 in
theorem law_body (w : World) (fa : Addr) (cd : Value) (scr : Addr) (vs : List Value) (ns : List Int) (hi : IntsAre vs ns) (hn : vs.length ≤ 1000) (p : Program) (loose : List Str) (mean : ExcName → Option Value) (mg mb : Str → Option Value) (h₀ : Heap) (L : Addr) (m : Str → Option Value)
    (o1 o2 o3 : Obj) (v1 v2 v3 : Option Value) (s : Shared) (Q : Flow → Shared → Prop) (E : Value → Shared → Prop)
    (B : Below callerA h₀ [] h₀) (F : Fr h₀ L s.heap (fun y => if y = Str.ofString "script" then some (.ref scr) else m y)) (X : (KK w.params).In h₀) (N : News h₀ L s.heap [(L + 1 + 1 + 1, o3), (L + 1 + 1, o2), (L + 1, o1)]) (d1 : o1.data = .cell v1) (d2 : o2.data = .cell v2) (d3 : o3.data = .cell v3)
    (T : Top p loose mean mg mb h₀) (hl : h₀.IsList scr vs.toArray)
    (hpo : PassesOwn (model Challenge.rw_nu0337_01.row.prog w) (callerA.deeper (envOfC "law" S44 L fa cd)) (envOfC "law" S44 L fa cd) E)
    (hret : ∀ h' tk', (∀ b o, h₀.get? b = some o → h'.get? b = some o) → Q (.ret (.bool true)) { s with heap := h', toks := tk' }) :
    wpAny (model Challenge.rw_nu0337_01.row.prog w) (callerA.deeper (envOfC "law" S44 L fa cd)) (execs B44 (envOfC "law" S44 L fa cd)) Q E s := by
  w_top off
  revert X
  k_fill
  intro X
  k_with "call ref" =>
    (with_reducible show wpAny _ _ (call (Value.ref 345) _) _ _ _)
    focus
      k_dflt (refine' pool_use hi hn ?B ?F X ?N T rfl hl ?hd ?hu (cells_ok d1 d2 d3) ?_; (case B => k_asm); (case F => k_asm); (case N => k_asm); (case hd => exact Nat.le_of_ble_eq_true rfl); (case hu => exact Nat.le_of_ble_eq_true rfl); k_whole)
      intro P FL o fvs nf h' tk' hP hF hlt y1 y2 y3 y4 y5 y6 F' N'
      (try k_sweep)
  k_with "subscriptTail" =>
    (with_reducible show wpAny _ _ (subscriptTail _ _ (Value.ref _) (Value.int _ _)) _ _ _)
    (k_dflt (refine' two_item ?N ?hm ?h0 ?h2 ?_; (case N => k_asm); (case hm => k_mem); (case h0 => omega); (case h2 => omega); k_whole))
    (intro bs nn e1 e2)
    (k_dflt (obtain ⟨nb, lb, bb, qb, hB⟩ := base_of (by assumption) (by assumption) e1 e2))
  k_with "eval ListComp" => k_dflt (refine LCg.ListComp_U (F₀ := by k_asm) (by with_unfolding_all rfl) (by decide) (by rfl) (by decide) (by rfl) ?_)
  k_with "exec Assign cons ListComp" => ((with_reducible show wpAny _ _ (exec (Stmt.Assign [Expr.Attribute _ _ _] _ _) _) _ _ _); (with_reducible refine plainObj_wpAny_Assign_Attribute ?_ ?_); rotate_left; with_unfolding_all rfl)
  k_with "CompSrc" =>
    (with_reducible show LCg.CompSrc _ _ _ _ _ _ _ (PySem.Expr.Call (PySem.Expr.Name (Str.ofString "_law_param") _) _ _ _) _ _ _ _ _ _)
    focus
      k_dflt (refine' par_comp (P := P) (FL := FL) rfl ?F ?N ?pk ?hr ?hb ?hb0 ?hP ?hRw ?turn ?fin; (case hRw => assumption); (case F => k_asm); (case N => k_asm); (case pk => k_extra "MyPick"); (case hr => k_asm); (case hb => omega); (case hb0 => omega); (case hP => assumption))
      (case' turn => (intro ci ck cI coI cC coC cD cm cys co ctl cps ch ctk cE z1 z2 z3 z4 z5 z6 z7 cF cN z8 z9 z10 z11 z12 z13 z14; subst z5))
      (case' fin => (intro cg ys o tl ps z1 z2 z3 hPs hpl; unfold LCg.FinE; intro PL ch ctk cF cN coff; (have coff := off1_mem coff); (have ne91 := off_ne coff List.mem_cons_self); (have hp4 : ps.length ≤ 4 := by omega)))
  k_with "Exists" =>
    focus
      k_dflt (refine' par_end ?F ?N ?hoff ?b1 ?y1 ?hPs ?b9 ?y9 ?hP ?hO ?hT; (case N => k_asm); (case F => k_asm); (case hO => assumption); (case hT => assumption); (case hoff => assumption); (case b1 => assumption); (case y1 => assumption); (case hPs => assumption); (case b9 => assumption); (case y9 => assumption); (case hP => assumption))
  k_with "execs cons" =>
    (with_reducible show wpAny _ _ (execs T6 _) _ _ _)
    focus
      (k_dflt (refine' law_t6 (P := P) (FL := FL) ?B ?F ?X ?N ?T ⟨?w1, ?w2, ?w3, ?w4, ?w5, ?w6, ?w7, ?w8, ?w9, ?w10, ?w11, ?w12, ?w13, ?w14, ?w15, ?w16, ?w17, ?w18, ?w19⟩ ?hc ?hMA ?hBs ?hPL ?hP ?hp4 ?hpo ?hret; (case B => k_asm); (case F => (refine' fr1 ?f0 ?f1; (case f0 => k_asm); (case f1 => exact rfl))); (case X => k_asm); (case N => (refine' Pick.two (by assumption) ?k40 ?k41; (case k40 => k_extra "MyPick"); (case k41 => k_extra "MyPick"))); (case T => k_asm); (case w1 => assumption); (case w2 => exact Figs.mono (by assumption) (by k_extra "MySub")); (case w3 => k_extra "MyMem"); (case w4 => exact RowsW.mono (by assumption) (by k_extra "MySub")); (case w5 => exact IsTy.chr_of (IsTy0.mono (by assumption) (by k_extra "MySub"))); (case w6 => k_extra "MyRel"); (case w7 => k_extra "MyRel"); (case w8 => exact IsTy0.mono (by assumption) (by k_extra "MySub")); (case w9 => k_extra "MyMem"); (case w10 => first | assumption | exact rfl); (case w11 => k_extra "MyMem"); (case w12 => first | assumption | exact rfl); (case w13 => k_extra "MyMem"); (case w14 => first | assumption | exact rfl); (case w15 => k_extra "MySep"); (case w16 => k_extra "MySep"); (case w17 => k_extra "MyNe"); (case w18 => omega); (case w19 => omega); (case hc => omega); (case hMA => (refine' ⟨_, _, _, _, _, _, _, _, _, _, _, _, ?ha, ?hb⟩; (case ha => k_extra "MyMem"); (case hb => k_extra "MyMem"))); (case hBs => k_extra "MyRel"); (case hP => exact Pars.mono (by assumption) (by k_extra "MySub")); (case hPL => k_extra "MyMem"); (case hp4 => assumption); (case hpo => assumption)))
      exact fun h' tk' k => hret h' tk' k
  k_extra "MySteps"
end


set_option maxRecDepth 100000 in
theorem hd (h : WalkO qv [] (XL qv []) HK.says rr.toRowW dlaw [] (fun f vs => PySem.call f vs)) : PySem.Challenge.rw_nu0337_01.Holds := by
  w_on
  refine holds_law said fun said => ?_
  refine holds_open (d := dlaw) (kwd := []) (q := qv) (loose := []) (Xt := XT) (XP := XL qv []) (Yf := HK.obs) (Ya := HK.val) (YP := HK.says) (N := 5000) left HK.of HK.keeps (fun s e => xl_of s (Bool.and_eq_true_iff.mp e).1) XL.keeps (by rfl) (by rfl) (by rfl) (fun s e => recFacts_of (Bool.and_eq_true_iff.mp e).2) (by rfl) said (by decide +kernel) ⟨rfl, rfl, rfl, rfl, rfl, by decide +kernel⟩ ?hw h
  w_witness2

theorem tick_lawwalk {prog : Program} {w : World} {A : Around} {env : Env} {E : Value → Shared → Prop} {s : Shared} {Q : Flow → Shared → Prop} (h : wpAny (model prog w) A (execs [] env) Q E s) : wpAny (model prog w) A (execs [] env) Q E s := by
  first | (walk1; fail) | exact h

set_option maxRecDepth 100000 in
set_option maxHeartbeats 8000000 in
theorem law_walk : WalkO qv [] (XL qv []) HK.says rr.toRowW dlaw [] (fun f vs => PySem.call f vs) := by
  w_top off
  have z : ∀ P : Params, KK P = KK P := fun _ => rfl
  k_fill
  w_strict (k_go0; (all_goals try k_fold); k_with_none)
  rename IntsAre _ _ => hi
  rename Fr _ _ _ _ => F
  rename News _ _ _ _ => N
  rename Heap.IsList _ _ _ => hl
  rename Top _ _ _ _ _ _ => T
  have hl9 := hi.length
  k_dflt (refine law_body _ _ _ _ _ _ hi (by omega) _ _ _ _ _ _ _ _ _ _ _ _ _ _ _ _ _ (by k_asm) (fr1 F (by exact rfl)) (by k_asm) N (by assumption) (by assumption) (by assumption) T hl (by passes_own) ?_)
  intro h' tk' keep
  show GoodW _ _ _ _ _ (.ok (.ret (.bool true))) _
  refine ⟨.inl ⟨.bool true, .bool true, [], rfl, raisesW_false ?end1, .bool true, ?end2, unshared_nil⟩, keep, rfl, by assumption⟩
  · wrow_none_raised
  · wrow_post


end Mine
set_option maxRecDepth 100000 in
set_option maxHeartbeats 8000000 in
theorem PySem.Challenge.cw_nu0337_01_holds : PySem.Challenge.rw_nu0337_01.Holds := by
  exact Mine.hd Mine.law_walk
