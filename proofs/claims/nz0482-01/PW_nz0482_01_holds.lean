import PyProof.Rows.All
import Wide.All
import OpenK.AllK
import Wide.FinOn
import PySem.Challenge.RW_nz0482_01
open PySem PySem.W PySem.Spec PySem.Calls PyProof.Rows
set_option Elab.async false
set_option maxRecDepth 100000
set_option linter.unusedVariables false
set_option compiler.extract_closed false
namespace Mine
section
set_option maxHeartbeats 0
noncomputable def topSt (i : Nat) : Stmt := (PySem.Challenge.pw_nz0482_01.main.body[i]?).getD default
noncomputable def clsSt (i j : Nat) : Stmt := match topSt i with
  | .ClassDef (body := b) .. => (b[j]?).getD default
  | _ => default
noncomputable def dP : Stmt → Arguments
  | .FunctionDef (args := a) .. => a
  | _ => default
noncomputable def dB : Stmt → List Stmt
  | .FunctionDef (body := b) .. => b
  | _ => default
noncomputable def dS : Stmt → Scope
  | .FunctionDef (scope := s) .. => s
  | _ => default
noncomputable abbrev P21 : Arguments := (⟨_, by (conv => rhs; whnf)⟩ : {b : Arguments // b = dP (topSt 0)}).1
noncomputable abbrev B21 : List Stmt := (⟨_, by (conv => rhs; whnf)⟩ : {b : List Stmt // b = dB (topSt 0)}).1
noncomputable abbrev S21 : Scope := (⟨_, by (conv => rhs; whnf)⟩ : {b : Scope // b = dS (topSt 0)}).1
noncomputable abbrev P28 : Arguments := (⟨_, by (conv => rhs; whnf)⟩ : {b : Arguments // b = dP (topSt 2)}).1
noncomputable abbrev B28 : List Stmt := (⟨_, by (conv => rhs; whnf)⟩ : {b : List Stmt // b = dB (topSt 2)}).1
noncomputable abbrev S28 : Scope := (⟨_, by (conv => rhs; whnf)⟩ : {b : Scope // b = dS (topSt 2)}).1
noncomputable abbrev P55 : Arguments := (⟨_, by (conv => rhs; whnf)⟩ : {b : Arguments // b = dP (clsSt 5 0)}).1
noncomputable abbrev B55 : List Stmt := (⟨_, by (conv => rhs; whnf)⟩ : {b : List Stmt // b = dB (clsSt 5 0)}).1
noncomputable abbrev S55 : Scope := (⟨_, by (conv => rhs; whnf)⟩ : {b : Scope // b = dS (clsSt 5 0)}).1
noncomputable abbrev P71 : Arguments := (⟨_, by (conv => rhs; whnf)⟩ : {b : Arguments // b = dP (topSt 11)}).1
noncomputable abbrev B71 : List Stmt := (⟨_, by (conv => rhs; whnf)⟩ : {b : List Stmt // b = dB (topSt 11)}).1
noncomputable abbrev S71 : Scope := (⟨_, by (conv => rhs; whnf)⟩ : {b : Scope // b = dS (topSt 11)}).1
noncomputable abbrev P78 : Arguments := (⟨_, by (conv => rhs; whnf)⟩ : {b : Arguments // b = dP (topSt 12)}).1
noncomputable abbrev B78 : List Stmt := (⟨_, by (conv => rhs; whnf)⟩ : {b : List Stmt // b = dB (topSt 12)}).1
noncomputable abbrev S78 : Scope := (⟨_, by (conv => rhs; whnf)⟩ : {b : Scope // b = dS (topSt 12)}).1
noncomputable abbrev P85 : Arguments := (⟨_, by (conv => rhs; whnf)⟩ : {b : Arguments // b = dP (topSt 13)}).1
noncomputable abbrev B85 : List Stmt := (⟨_, by (conv => rhs; whnf)⟩ : {b : List Stmt // b = dB (topSt 13)}).1
noncomputable abbrev S85 : Scope := (⟨_, by (conv => rhs; whnf)⟩ : {b : Scope // b = dS (topSt 13)}).1
noncomputable abbrev P92 : Arguments := (⟨_, by (conv => rhs; whnf)⟩ : {b : Arguments // b = dP (topSt 14)}).1
noncomputable abbrev B92 : List Stmt := (⟨_, by (conv => rhs; whnf)⟩ : {b : List Stmt // b = dB (topSt 14)}).1
noncomputable abbrev S92 : Scope := (⟨_, by (conv => rhs; whnf)⟩ : {b : Scope // b = dS (topSt 14)}).1
noncomputable abbrev P99 : Arguments := (⟨_, by (conv => rhs; whnf)⟩ : {b : Arguments // b = dP (topSt 15)}).1
noncomputable abbrev B99 : List Stmt := (⟨_, by (conv => rhs; whnf)⟩ : {b : List Stmt // b = dB (topSt 15)}).1
noncomputable abbrev S99 : Scope := (⟨_, by (conv => rhs; whnf)⟩ : {b : Scope // b = dS (topSt 15)}).1
noncomputable abbrev P106 : Arguments := (⟨_, by (conv => rhs; whnf)⟩ : {b : Arguments // b = dP (topSt 16)}).1
noncomputable abbrev B106 : List Stmt := (⟨_, by (conv => rhs; whnf)⟩ : {b : List Stmt // b = dB (topSt 16)}).1
noncomputable abbrev S106 : Scope := (⟨_, by (conv => rhs; whnf)⟩ : {b : Scope // b = dS (topSt 16)}).1
noncomputable abbrev P113 : Arguments := (⟨_, by (conv => rhs; whnf)⟩ : {b : Arguments // b = dP (topSt 17)}).1
noncomputable abbrev B113 : List Stmt := (⟨_, by (conv => rhs; whnf)⟩ : {b : List Stmt // b = dB (topSt 17)}).1
noncomputable abbrev S113 : Scope := (⟨_, by (conv => rhs; whnf)⟩ : {b : Scope // b = dS (topSt 17)}).1
noncomputable abbrev P120 : Arguments := (⟨_, by (conv => rhs; whnf)⟩ : {b : Arguments // b = dP (topSt 18)}).1
noncomputable abbrev B120 : List Stmt := (⟨_, by (conv => rhs; whnf)⟩ : {b : List Stmt // b = dB (topSt 18)}).1
noncomputable abbrev S120 : Scope := (⟨_, by (conv => rhs; whnf)⟩ : {b : Scope // b = dS (topSt 18)}).1
noncomputable abbrev P127 : Arguments := (⟨_, by (conv => rhs; whnf)⟩ : {b : Arguments // b = dP (topSt 19)}).1
noncomputable abbrev B127 : List Stmt := (⟨_, by (conv => rhs; whnf)⟩ : {b : List Stmt // b = dB (topSt 19)}).1
noncomputable abbrev S127 : Scope := (⟨_, by (conv => rhs; whnf)⟩ : {b : Scope // b = dS (topSt 19)}).1
noncomputable abbrev P134 : Arguments := (⟨_, by (conv => rhs; whnf)⟩ : {b : Arguments // b = dP (topSt 20)}).1
noncomputable abbrev B134 : List Stmt := (⟨_, by (conv => rhs; whnf)⟩ : {b : List Stmt // b = dB (topSt 20)}).1
noncomputable abbrev S134 : Scope := (⟨_, by (conv => rhs; whnf)⟩ : {b : Scope // b = dS (topSt 20)}).1
noncomputable abbrev P141 : Arguments := (⟨_, by (conv => rhs; whnf)⟩ : {b : Arguments // b = dP (topSt 21)}).1
noncomputable abbrev B141 : List Stmt := (⟨_, by (conv => rhs; whnf)⟩ : {b : List Stmt // b = dB (topSt 21)}).1
noncomputable abbrev S141 : Scope := (⟨_, by (conv => rhs; whnf)⟩ : {b : Scope // b = dS (topSt 21)}).1
noncomputable abbrev P148 : Arguments := (⟨_, by (conv => rhs; whnf)⟩ : {b : Arguments // b = dP (topSt 22)}).1
noncomputable abbrev B148 : List Stmt := (⟨_, by (conv => rhs; whnf)⟩ : {b : List Stmt // b = dB (topSt 22)}).1
noncomputable abbrev S148 : Scope := (⟨_, by (conv => rhs; whnf)⟩ : {b : Scope // b = dS (topSt 22)}).1
noncomputable abbrev P155 : Arguments := (⟨_, by (conv => rhs; whnf)⟩ : {b : Arguments // b = dP (topSt 23)}).1
noncomputable abbrev B155 : List Stmt := (⟨_, by (conv => rhs; whnf)⟩ : {b : List Stmt // b = dB (topSt 23)}).1
noncomputable abbrev S155 : Scope := (⟨_, by (conv => rhs; whnf)⟩ : {b : Scope // b = dS (topSt 23)}).1
noncomputable abbrev P162 : Arguments := (⟨_, by (conv => rhs; whnf)⟩ : {b : Arguments // b = dP (topSt 24)}).1
noncomputable abbrev B162 : List Stmt := (⟨_, by (conv => rhs; whnf)⟩ : {b : List Stmt // b = dB (topSt 24)}).1
noncomputable abbrev S162 : Scope := (⟨_, by (conv => rhs; whnf)⟩ : {b : Scope // b = dS (topSt 24)}).1
noncomputable abbrev P169 : Arguments := (⟨_, by (conv => rhs; whnf)⟩ : {b : Arguments // b = dP (topSt 25)}).1
noncomputable abbrev B169 : List Stmt := (⟨_, by (conv => rhs; whnf)⟩ : {b : List Stmt // b = dB (topSt 25)}).1
noncomputable abbrev S169 : Scope := (⟨_, by (conv => rhs; whnf)⟩ : {b : Scope // b = dS (topSt 25)}).1
noncomputable abbrev P176 : Arguments := (⟨_, by (conv => rhs; whnf)⟩ : {b : Arguments // b = dP (topSt 26)}).1
noncomputable abbrev B176 : List Stmt := (⟨_, by (conv => rhs; whnf)⟩ : {b : List Stmt // b = dB (topSt 26)}).1
noncomputable abbrev S176 : Scope := (⟨_, by (conv => rhs; whnf)⟩ : {b : Scope // b = dS (topSt 26)}).1
noncomputable abbrev P183 : Arguments := (⟨_, by (conv => rhs; whnf)⟩ : {b : Arguments // b = dP (topSt 27)}).1
noncomputable abbrev B183 : List Stmt := (⟨_, by (conv => rhs; whnf)⟩ : {b : List Stmt // b = dB (topSt 27)}).1
noncomputable abbrev S183 : Scope := (⟨_, by (conv => rhs; whnf)⟩ : {b : Scope // b = dS (topSt 27)}).1
noncomputable abbrev P190 : Arguments := (⟨_, by (conv => rhs; whnf)⟩ : {b : Arguments // b = dP (topSt 28)}).1
noncomputable abbrev B190 : List Stmt := (⟨_, by (conv => rhs; whnf)⟩ : {b : List Stmt // b = dB (topSt 28)}).1
noncomputable abbrev S190 : Scope := (⟨_, by (conv => rhs; whnf)⟩ : {b : Scope // b = dS (topSt 28)}).1
noncomputable abbrev P197 : Arguments := (⟨_, by (conv => rhs; whnf)⟩ : {b : Arguments // b = dP (topSt 29)}).1
noncomputable abbrev B197 : List Stmt := (⟨_, by (conv => rhs; whnf)⟩ : {b : List Stmt // b = dB (topSt 29)}).1
noncomputable abbrev S197 : Scope := (⟨_, by (conv => rhs; whnf)⟩ : {b : Scope // b = dS (topSt 29)}).1
noncomputable abbrev P204 : Arguments := (⟨_, by (conv => rhs; whnf)⟩ : {b : Arguments // b = dP (topSt 30)}).1
noncomputable abbrev B204 : List Stmt := (⟨_, by (conv => rhs; whnf)⟩ : {b : List Stmt // b = dB (topSt 30)}).1
noncomputable abbrev S204 : Scope := (⟨_, by (conv => rhs; whnf)⟩ : {b : Scope // b = dS (topSt 30)}).1
noncomputable abbrev P211 : Arguments := (⟨_, by (conv => rhs; whnf)⟩ : {b : Arguments // b = dP (topSt 31)}).1
noncomputable abbrev B211 : List Stmt := (⟨_, by (conv => rhs; whnf)⟩ : {b : List Stmt // b = dB (topSt 31)}).1
noncomputable abbrev S211 : Scope := (⟨_, by (conv => rhs; whnf)⟩ : {b : Scope // b = dS (topSt 31)}).1
noncomputable abbrev P218 : Arguments := (⟨_, by (conv => rhs; whnf)⟩ : {b : Arguments // b = dP (topSt 32)}).1
noncomputable abbrev B218 : List Stmt := (⟨_, by (conv => rhs; whnf)⟩ : {b : List Stmt // b = dB (topSt 32)}).1
noncomputable abbrev S218 : Scope := (⟨_, by (conv => rhs; whnf)⟩ : {b : Scope // b = dS (topSt 32)}).1
noncomputable abbrev P225 : Arguments := (⟨_, by (conv => rhs; whnf)⟩ : {b : Arguments // b = dP (topSt 33)}).1
noncomputable abbrev B225 : List Stmt := (⟨_, by (conv => rhs; whnf)⟩ : {b : List Stmt // b = dB (topSt 33)}).1
noncomputable abbrev S225 : Scope := (⟨_, by (conv => rhs; whnf)⟩ : {b : Scope // b = dS (topSt 33)}).1
noncomputable abbrev P240 : Arguments := (⟨_, by (conv => rhs; whnf)⟩ : {b : Arguments // b = dP (clsSt 35 0)}).1
noncomputable abbrev B240 : List Stmt := (⟨_, by (conv => rhs; whnf)⟩ : {b : List Stmt // b = dB (clsSt 35 0)}).1
noncomputable abbrev S240 : Scope := (⟨_, by (conv => rhs; whnf)⟩ : {b : Scope // b = dS (clsSt 35 0)}).1
noncomputable abbrev P247 : Arguments := (⟨_, by (conv => rhs; whnf)⟩ : {b : Arguments // b = dP (clsSt 35 1)}).1
noncomputable abbrev B247 : List Stmt := (⟨_, by (conv => rhs; whnf)⟩ : {b : List Stmt // b = dB (clsSt 35 1)}).1
noncomputable abbrev S247 : Scope := (⟨_, by (conv => rhs; whnf)⟩ : {b : Scope // b = dS (clsSt 35 1)}).1
noncomputable abbrev P261 : Arguments := (⟨_, by (conv => rhs; whnf)⟩ : {b : Arguments // b = dP (topSt 38)}).1
noncomputable abbrev B261 : List Stmt := (⟨_, by (conv => rhs; whnf)⟩ : {b : List Stmt // b = dB (topSt 38)}).1
noncomputable abbrev S261 : Scope := (⟨_, by (conv => rhs; whnf)⟩ : {b : Scope // b = dS (topSt 38)}).1
noncomputable abbrev P266 : Arguments := (⟨_, by (conv => rhs; whnf)⟩ : {b : Arguments // b = dP (topSt 39)}).1
noncomputable abbrev B266 : List Stmt := (⟨_, by (conv => rhs; whnf)⟩ : {b : List Stmt // b = dB (topSt 39)}).1
noncomputable abbrev S266 : Scope := (⟨_, by (conv => rhs; whnf)⟩ : {b : Scope // b = dS (topSt 39)}).1
noncomputable abbrev P273 : Arguments := (⟨_, by (conv => rhs; whnf)⟩ : {b : Arguments // b = dP (topSt 40)}).1
noncomputable abbrev B273 : List Stmt := (⟨_, by (conv => rhs; whnf)⟩ : {b : List Stmt // b = dB (topSt 40)}).1
noncomputable abbrev S273 : Scope := (⟨_, by (conv => rhs; whnf)⟩ : {b : Scope // b = dS (topSt 40)}).1
noncomputable abbrev P280 : Arguments := (⟨_, by (conv => rhs; whnf)⟩ : {b : Arguments // b = dP (topSt 41)}).1
noncomputable abbrev B280 : List Stmt := (⟨_, by (conv => rhs; whnf)⟩ : {b : List Stmt // b = dB (topSt 41)}).1
noncomputable abbrev S280 : Scope := (⟨_, by (conv => rhs; whnf)⟩ : {b : Scope // b = dS (topSt 41)}).1
noncomputable abbrev P287 : Arguments := (⟨_, by (conv => rhs; whnf)⟩ : {b : Arguments // b = dP (topSt 42)}).1
noncomputable abbrev B287 : List Stmt := (⟨_, by (conv => rhs; whnf)⟩ : {b : List Stmt // b = dB (topSt 42)}).1
noncomputable abbrev S287 : Scope := (⟨_, by (conv => rhs; whnf)⟩ : {b : Scope // b = dS (topSt 42)}).1
noncomputable abbrev P294 : Arguments := (⟨_, by (conv => rhs; whnf)⟩ : {b : Arguments // b = dP (topSt 43)}).1
noncomputable abbrev B294 : List Stmt := (⟨_, by (conv => rhs; whnf)⟩ : {b : List Stmt // b = dB (topSt 43)}).1
noncomputable abbrev S294 : Scope := (⟨_, by (conv => rhs; whnf)⟩ : {b : Scope // b = dS (topSt 43)}).1
noncomputable abbrev P301 : Arguments := (⟨_, by (conv => rhs; whnf)⟩ : {b : Arguments // b = dP (topSt 44)}).1
noncomputable abbrev B301 : List Stmt := (⟨_, by (conv => rhs; whnf)⟩ : {b : List Stmt // b = dB (topSt 44)}).1
noncomputable abbrev S301 : Scope := (⟨_, by (conv => rhs; whnf)⟩ : {b : Scope // b = dS (topSt 44)}).1
noncomputable abbrev P308 : Arguments := (⟨_, by (conv => rhs; whnf)⟩ : {b : Arguments // b = dP (topSt 45)}).1
noncomputable abbrev B308 : List Stmt := (⟨_, by (conv => rhs; whnf)⟩ : {b : List Stmt // b = dB (topSt 45)}).1
noncomputable abbrev S308 : Scope := (⟨_, by (conv => rhs; whnf)⟩ : {b : Scope // b = dS (topSt 45)}).1
noncomputable abbrev P315 : Arguments := (⟨_, by (conv => rhs; whnf)⟩ : {b : Arguments // b = dP (topSt 46)}).1
noncomputable abbrev B315 : List Stmt := (⟨_, by (conv => rhs; whnf)⟩ : {b : List Stmt // b = dB (topSt 46)}).1
noncomputable abbrev S315 : Scope := (⟨_, by (conv => rhs; whnf)⟩ : {b : Scope // b = dS (topSt 46)}).1
noncomputable abbrev P320 : Arguments := (⟨_, by (conv => rhs; whnf)⟩ : {b : Arguments // b = dP (topSt 47)}).1
noncomputable abbrev B320 : List Stmt := (⟨_, by (conv => rhs; whnf)⟩ : {b : List Stmt // b = dB (topSt 47)}).1
noncomputable abbrev S320 : Scope := (⟨_, by (conv => rhs; whnf)⟩ : {b : Scope // b = dS (topSt 47)}).1
noncomputable abbrev P325 : Arguments := (⟨_, by (conv => rhs; whnf)⟩ : {b : Arguments // b = dP (topSt 48)}).1
noncomputable abbrev B325 : List Stmt := (⟨_, by (conv => rhs; whnf)⟩ : {b : List Stmt // b = dB (topSt 48)}).1
noncomputable abbrev S325 : Scope := (⟨_, by (conv => rhs; whnf)⟩ : {b : Scope // b = dS (topSt 48)}).1
noncomputable abbrev P330 : Arguments := (⟨_, by (conv => rhs; whnf)⟩ : {b : Arguments // b = dP (topSt 49)}).1
noncomputable abbrev B330 : List Stmt := (⟨_, by (conv => rhs; whnf)⟩ : {b : List Stmt // b = dB (topSt 49)}).1
noncomputable abbrev S330 : Scope := (⟨_, by (conv => rhs; whnf)⟩ : {b : Scope // b = dS (topSt 49)}).1
noncomputable abbrev P337 : Arguments := (⟨_, by (conv => rhs; whnf)⟩ : {b : Arguments // b = dP (topSt 51)}).1
noncomputable abbrev B337 : List Stmt := (⟨_, by (conv => rhs; whnf)⟩ : {b : List Stmt // b = dB (topSt 51)}).1
noncomputable abbrev S337 : Scope := (⟨_, by (conv => rhs; whnf)⟩ : {b : Scope // b = dS (topSt 51)}).1
noncomputable abbrev P344 : Arguments := (⟨_, by (conv => rhs; whnf)⟩ : {b : Arguments // b = dP (topSt 52)}).1
noncomputable abbrev B344 : List Stmt := (⟨_, by (conv => rhs; whnf)⟩ : {b : List Stmt // b = dB (topSt 52)}).1
noncomputable abbrev S344 : Scope := (⟨_, by (conv => rhs; whnf)⟩ : {b : Scope // b = dS (topSt 52)}).1
noncomputable abbrev P351 : Arguments := (⟨_, by (conv => rhs; whnf)⟩ : {b : Arguments // b = dP (topSt 53)}).1
noncomputable abbrev B351 : List Stmt := (⟨_, by (conv => rhs; whnf)⟩ : {b : List Stmt // b = dB (topSt 53)}).1
noncomputable abbrev S351 : Scope := (⟨_, by (conv => rhs; whnf)⟩ : {b : Scope // b = dS (topSt 53)}).1
noncomputable abbrev P358 : Arguments := (⟨_, by (conv => rhs; whnf)⟩ : {b : Arguments // b = dP (topSt 54)}).1
noncomputable abbrev B358 : List Stmt := (⟨_, by (conv => rhs; whnf)⟩ : {b : List Stmt // b = dB (topSt 54)}).1
noncomputable abbrev S358 : Scope := (⟨_, by (conv => rhs; whnf)⟩ : {b : Scope // b = dS (topSt 54)}).1
noncomputable abbrev P363 : Arguments := (⟨_, by (conv => rhs; whnf)⟩ : {b : Arguments // b = dP (topSt 55)}).1
noncomputable abbrev B363 : List Stmt := (⟨_, by (conv => rhs; whnf)⟩ : {b : List Stmt // b = dB (topSt 55)}).1
noncomputable abbrev S363 : Scope := (⟨_, by (conv => rhs; whnf)⟩ : {b : Scope // b = dS (topSt 55)}).1
noncomputable abbrev P370 : Arguments := (⟨_, by (conv => rhs; whnf)⟩ : {b : Arguments // b = dP (topSt 56)}).1
noncomputable abbrev B370 : List Stmt := (⟨_, by (conv => rhs; whnf)⟩ : {b : List Stmt // b = dB (topSt 56)}).1
noncomputable abbrev S370 : Scope := (⟨_, by (conv => rhs; whnf)⟩ : {b : Scope // b = dS (topSt 56)}).1
noncomputable abbrev P375 : Arguments := (⟨_, by (conv => rhs; whnf)⟩ : {b : Arguments // b = dP (topSt 57)}).1
noncomputable abbrev B375 : List Stmt := (⟨_, by (conv => rhs; whnf)⟩ : {b : List Stmt // b = dB (topSt 57)}).1
noncomputable abbrev S375 : Scope := (⟨_, by (conv => rhs; whnf)⟩ : {b : Scope // b = dS (topSt 57)}).1
noncomputable abbrev P382 : Arguments := (⟨_, by (conv => rhs; whnf)⟩ : {b : Arguments // b = dP (topSt 58)}).1
noncomputable abbrev B382 : List Stmt := (⟨_, by (conv => rhs; whnf)⟩ : {b : List Stmt // b = dB (topSt 58)}).1
noncomputable abbrev S382 : Scope := (⟨_, by (conv => rhs; whnf)⟩ : {b : Scope // b = dS (topSt 58)}).1
noncomputable abbrev P387 : Arguments := (⟨_, by (conv => rhs; whnf)⟩ : {b : Arguments // b = dP (topSt 59)}).1
noncomputable abbrev B387 : List Stmt := (⟨_, by (conv => rhs; whnf)⟩ : {b : List Stmt // b = dB (topSt 59)}).1
noncomputable abbrev S387 : Scope := (⟨_, by (conv => rhs; whnf)⟩ : {b : Scope // b = dS (topSt 59)}).1
noncomputable abbrev P394 : Arguments := (⟨_, by (conv => rhs; whnf)⟩ : {b : Arguments // b = dP (topSt 60)}).1
noncomputable abbrev B394 : List Stmt := (⟨_, by (conv => rhs; whnf)⟩ : {b : List Stmt // b = dB (topSt 60)}).1
noncomputable abbrev S394 : Scope := (⟨_, by (conv => rhs; whnf)⟩ : {b : Scope // b = dS (topSt 60)}).1
noncomputable abbrev P401 : Arguments := (⟨_, by (conv => rhs; whnf)⟩ : {b : Arguments // b = dP (topSt 61)}).1
noncomputable abbrev B401 : List Stmt := (⟨_, by (conv => rhs; whnf)⟩ : {b : List Stmt // b = dB (topSt 61)}).1
noncomputable abbrev S401 : Scope := (⟨_, by (conv => rhs; whnf)⟩ : {b : Scope // b = dS (topSt 61)}).1
noncomputable abbrev P406 : Arguments := (⟨_, by (conv => rhs; whnf)⟩ : {b : Arguments // b = dP (topSt 62)}).1
noncomputable abbrev B406 : List Stmt := (⟨_, by (conv => rhs; whnf)⟩ : {b : List Stmt // b = dB (topSt 62)}).1
noncomputable abbrev S406 : Scope := (⟨_, by (conv => rhs; whnf)⟩ : {b : Scope // b = dS (topSt 62)}).1
noncomputable def k2 (P : Params) : Obj := { cls := Value.none, data := Data.dict #[{ hash := PyData.keyHash P (Str.ofString "type.__subclasses__.Exception.0"), key := Value.str (Str.ofString "type.__subclasses__.Exception.0") 222, val := Value.int 38 0 }, { hash := PyData.keyHash P (Str.ofString "type.__subclasses__.Exception.n"), key := Value.str (Str.ofString "type.__subclasses__.Exception.n") 223, val := Value.int 1 0 }] 2 }
noncomputable def k3 (P : Params) : Obj := { cls := Value.type "dict", data := Data.dict #[{ hash := PyData.keyHash P (Str.ofString "__name__"), key := Value.str (Str.ofString "__name__") 165, val := Value.str (Str.ofString "law_nz0482_01") 583 }, { hash := PyData.keyHash P (Str.ofString "__doc__"), key := Value.str (Str.ofString "__doc__") 166, val := Value.none }, { hash := PyData.keyHash P (Str.ofString "__package__"), key := Value.str (Str.ofString "__package__") 167, val := Value.none }, { hash := PyData.keyHash P (Str.ofString "__loader__"), key := Value.str (Str.ofString "__loader__") 168, val := Value.builtin "__main__.__loader__#opaque" }, { hash := PyData.keyHash P (Str.ofString "__spec__"), key := Value.str (Str.ofString "__spec__") 169, val := Value.none }, { hash := PyData.keyHash P (Str.ofString "__annotations__"), key := Value.str (Str.ofString "__annotations__") 170, val := Value.ref 6 }, { hash := PyData.keyHash P (Str.ofString "__builtins__"), key := Value.str (Str.ofString "__builtins__") 171, val := Value.ref 4 }, { hash := PyData.keyHash P (Str.ofString "__file__"), key := Value.str (Str.ofString "__file__") 173, val := Value.str (Str.ofString "/claim/cut.py") 172 }, { hash := PyData.keyHash P (Str.ofString "__cached__"), key := Value.str (Str.ofString "__cached__") 174, val := Value.none }, { hash := PyData.keyHash P (Str.ofString "_wall"), key := Value.str (Str.ofString "_wall") 193, val := Value.ref 21 }, { hash := PyData.keyHash P (Str.ofString "keep_all"), key := Value.str (Str.ofString "keep_all") 203, val := Value.ref 28 }, { hash := PyData.keyHash P (Str.ofString "CoveError"), key := Value.str (Str.ofString "CoveError") 225, val := Value.ref 38 }, { hash := PyData.keyHash P (Str.ofString "Refusal"), key := Value.str (Str.ofString "Refusal") 250, val := Value.ref 58 }, { hash := PyData.keyHash P (Str.ofString "NAN"), key := Value.str (Str.ofString "NAN") 255, val := Value.ref 61 }, { hash := PyData.keyHash P (Str.ofString "INF"), key := Value.str (Str.ofString "INF") 258, val := Value.ref 62 }, { hash := PyData.keyHash P (Str.ofString "ZERO"), key := Value.str (Str.ofString "ZERO") 261, val := Value.ref 63 }, { hash := PyData.keyHash P (Str.ofString "ONE"), key := Value.str (Str.ofString "ONE") 264, val := Value.ref 64 }, { hash := PyData.keyHash P (Str.ofString "gcd"), key := Value.str (Str.ofString "gcd") 272, val := Value.ref 71 }, { hash := PyData.keyHash P (Str.ofString "make"), key := Value.str (Str.ofString "make") 281, val := Value.ref 78 }, { hash := PyData.keyHash P (Str.ofString "from_int"), key := Value.str (Str.ofString "from_int") 288, val := Value.ref 85 }, { hash := PyData.keyHash P (Str.ofString "is_na"), key := Value.str (Str.ofString "is_na") 295, val := Value.ref 92 }, { hash := PyData.keyHash P (Str.ofString "is_nan"), key := Value.str (Str.ofString "is_nan") 302, val := Value.ref 99 }, { hash := PyData.keyHash P (Str.ofString "is_finite"), key := Value.str (Str.ofString "is_finite") 309, val := Value.ref 106 }, { hash := PyData.keyHash P (Str.ofString "sign"), key := Value.str (Str.ofString "sign") 316, val := Value.ref 113 }, { hash := PyData.keyHash P (Str.ofString "marked"), key := Value.str (Str.ofString "marked") 324, val := Value.ref 120 }, { hash := PyData.keyHash P (Str.ofString "neg"), key := Value.str (Str.ofString "neg") 331, val := Value.ref 127 }, { hash := PyData.keyHash P (Str.ofString "mul"), key := Value.str (Str.ofString "mul") 339, val := Value.ref 134 }, { hash := PyData.keyHash P (Str.ofString "div"), key := Value.str (Str.ofString "div") 347, val := Value.ref 141 }, { hash := PyData.keyHash P (Str.ofString "isqrt"), key := Value.str (Str.ofString "isqrt") 356, val := Value.ref 148 }, { hash := PyData.keyHash P (Str.ofString "root"), key := Value.str (Str.ofString "root") 365, val := Value.ref 155 }, { hash := PyData.keyHash P (Str.ofString "floor"), key := Value.str (Str.ofString "floor") 372, val := Value.ref 162 }, { hash := PyData.keyHash P (Str.ofString "ceiling"), key := Value.str (Str.ofString "ceiling") 379, val := Value.ref 169 }, { hash := PyData.keyHash P (Str.ofString "trunc"), key := Value.str (Str.ofString "trunc") 386, val := Value.ref 176 }, { hash := PyData.keyHash P (Str.ofString "to_whole"), key := Value.str (Str.ofString "to_whole") 394, val := Value.ref 183 }, { hash := PyData.keyHash P (Str.ofString "nearest_whole"), key := Value.str (Str.ofString "nearest_whole") 404, val := Value.ref 190 }, { hash := PyData.keyHash P (Str.ofString "rounded"), key := Value.str (Str.ofString "rounded") 413, val := Value.ref 197 }, { hash := PyData.keyHash P (Str.ofString "round_half_even"), key := Value.str (Str.ofString "round_half_even") 421, val := Value.ref 204 }, { hash := PyData.keyHash P (Str.ofString "exponent"), key := Value.str (Str.ofString "exponent") 431, val := Value.ref 211 }, { hash := PyData.keyHash P (Str.ofString "signif"), key := Value.str (Str.ofString "signif") 439, val := Value.ref 218 }, { hash := PyData.keyHash P (Str.ofString "compare"), key := Value.str (Str.ofString "compare") 449, val := Value.ref 225 }, { hash := PyData.keyHash P (Str.ofString "Vector"), key := Value.str (Str.ofString "Vector") 493, val := Value.ref 250 }, { hash := PyData.keyHash P (Str.ofString "MOST_FACTORS"), key := Value.str (Str.ofString "MOST_FACTORS") 497, val := Value.int 4096 496 }, { hash := PyData.keyHash P (Str.ofString "check_math"), key := Value.str (Str.ofString "check_math") 504, val := Value.ref 261 }, { hash := PyData.keyHash P (Str.ofString "doubles"), key := Value.str (Str.ofString "doubles") 510, val := Value.ref 266 }, { hash := PyData.keyHash P (Str.ofString "abs_item"), key := Value.str (Str.ofString "abs_item") 517, val := Value.ref 273 }, { hash := PyData.keyHash P (Str.ofString "sign_item"), key := Value.str (Str.ofString "sign_item") 524, val := Value.ref 280 }, { hash := PyData.keyHash P (Str.ofString "exp_item"), key := Value.str (Str.ofString "exp_item") 531, val := Value.ref 287 }, { hash := PyData.keyHash P (Str.ofString "log_item"), key := Value.str (Str.ofString "log_item") 538, val := Value.ref 294 }, { hash := PyData.keyHash P (Str.ofString "log_above"), key := Value.str (Str.ofString "log_above") 548, val := Value.ref 301 }, { hash := PyData.keyHash P (Str.ofString "log_to"), key := Value.str (Str.ofString "log_to") 556, val := Value.ref 308 }, { hash := PyData.keyHash P (Str.ofString "math_item"), key := Value.str (Str.ofString "math_item") 564, val := Value.ref 315 }, { hash := PyData.keyHash P (Str.ofString "math1"), key := Value.str (Str.ofString "math1") 570, val := Value.ref 320 }, { hash := PyData.keyHash P (Str.ofString "round_to"), key := Value.str (Str.ofString "round_to") 576, val := Value.ref 325 }, { hash := PyData.keyHash P (Str.ofString "signif_to"), key := Value.str (Str.ofString "signif_to") 582, val := Value.ref 330 }, { hash := PyData.keyHash P (Str.ofString "_law_row"), key := Value.str (Str.ofString "_law_row") 595, val := Value.ref 337 }, { hash := PyData.keyHash P (Str.ofString "_law_next"), key := Value.str (Str.ofString "_law_next") 602, val := Value.ref 344 }, { hash := PyData.keyHash P (Str.ofString "_law_reduced"), key := Value.str (Str.ofString "_law_reduced") 612, val := Value.ref 351 }, { hash := PyData.keyHash P (Str.ofString "_law_kept"), key := Value.str (Str.ofString "_law_kept") 620, val := Value.ref 358 }, { hash := PyData.keyHash P (Str.ofString "_law_seen"), key := Value.str (Str.ofString "_law_seen") 626, val := Value.ref 363 }, { hash := PyData.keyHash P (Str.ofString "_law_item"), key := Value.str (Str.ofString "_law_item") 637, val := Value.ref 370 }, { hash := PyData.keyHash P (Str.ofString "_law_vector"), key := Value.str (Str.ofString "_law_vector") 643, val := Value.ref 375 }, { hash := PyData.keyHash P (Str.ofString "_law_step"), key := Value.str (Str.ofString "_law_step") 653, val := Value.ref 382 }, { hash := PyData.keyHash P (Str.ofString "_law_value"), key := Value.str (Str.ofString "_law_value") 659, val := Value.ref 387 }, { hash := PyData.keyHash P (Str.ofString "_law_rounded"), key := Value.str (Str.ofString "_law_rounded") 671, val := Value.ref 394 }, { hash := PyData.keyHash P (Str.ofString "_law_shortened"), key := Value.str (Str.ofString "_law_shortened") 681, val := Value.ref 401 }, { hash := PyData.keyHash P (Str.ofString "law"), key := Value.str (Str.ofString "law") 687, val := Value.ref 406 }] 66 }
noncomputable def k20 (P : Params) : Obj := { cls := Value.type "code", data := Data.fields #[Value.str (Str.ofString "_wall") 187, Value.str (Str.ofString "_wall") 188, Value.str (Str.ofString "/claim/cut.py") 189, Value.int 1 0, Value.int 1 0, Value.int 0 0, Value.int 0 0, Value.int 3 0, Value.ref 15, Value.bool true, Value.int 181 0, Value.ref 16, Value.none, Value.ref 17, Value.ref 18, Value.ref 19, Value.int 191 0, Value.int 1 0, Value.str (Str.ofString "/claim/cut.py") 192] }
noncomputable def k21 (P : Params) : Obj := { cls := Value.type "function", data := Data.func { name := Str.ofString "_wall", qualname := Str.ofString "_wall", params := P21, body := .stmts B21, scope := S21, globals := 3, closure := [], defaults := Value.none, kwdefaults := Value.none, pyModule := Value.str (Str.ofString "__main__") 164, code := Value.ref 20 } }
noncomputable def k27 (P : Params) : Obj := { cls := Value.type "code", data := Data.fields #[Value.str (Str.ofString "keep_all") 196, Value.str (Str.ofString "keep_all") 197, Value.str (Str.ofString "/claim/cut.py") 198, Value.int 5 0, Value.int 2 0, Value.int 0 0, Value.int 0 0, Value.int 3 0, Value.ref 22, Value.bool true, Value.int 181 0, Value.ref 23, Value.none, Value.ref 24, Value.ref 25, Value.ref 26, Value.int 201 0, Value.int 5 0, Value.str (Str.ofString "/claim/cut.py") 202] }
noncomputable def k28 (P : Params) : Obj := { cls := Value.type "function", data := Data.func { name := Str.ofString "keep_all", qualname := Str.ofString "keep_all", params := P28, body := .stmts B28, scope := S28, globals := 3, closure := [], defaults := Value.none, kwdefaults := Value.none, pyModule := Value.str (Str.ofString "vectorcove.arith") 194, code := Value.ref 27 } }
noncomputable def k29 (P : Params) : Obj := { cls := Value.type "tuple", data := Data.seq #[Value.type "Exception"] }
noncomputable def k37 (P : Params) : Obj := { cls := Value.type "dict", data := Data.dict #[{ hash := PyData.keyHash P (Str.ofString "__module__"), key := Value.str (Str.ofString "__module__") 213, val := Value.str (Str.ofString "vectorcove.errors") 204 }, { hash := PyData.keyHash P (Str.ofString "__firstlineno__"), key := Value.str (Str.ofString "__firstlineno__") 217, val := Value.int 10 216 }, { hash := PyData.keyHash P (Str.ofString "__static_attributes__"), key := Value.str (Str.ofString "__static_attributes__") 218, val := Value.ref 36 }, { hash := PyData.keyHash P (Str.ofString "__weakref__"), key := Value.str (Str.ofString "__weakref__") 220, val := Value.ref 39 }, { hash := PyData.keyHash P (Str.ofString "__doc__"), key := Value.str (Str.ofString "__doc__") 221, val := Value.none }] 3 }
noncomputable def k38 (P : Params) : Obj := { cls := Value.type "type", data := Data.cls { name := Str.ofString "CoveError", bases := [Value.type "Exception"], mro := [Value.ref 38, Value.type "Exception", Value.type "BaseException", Value.type "object"], ns := 37, qualname := Str.ofString "CoveError", subclasses := [Value.ref 58] }, slots := #[some (Value.ref 29), none, some (Value.str (Str.ofString "CoveError") 206), some (Value.str (Str.ofString "CoveError") 214), some (Value.builtin "Exception.__new__"), some (Value.bool true)] }
noncomputable def k39 (P : Params) : Obj := { cls := Value.type "getset_descriptor", data := Data.fields #[Value.str (Str.ofString "__weakref__") 219, Value.ref 38, Value.builtin "ExceptionGroup.__weakref__", Value.none] }
noncomputable def k42 (P : Params) : Obj := { cls := Value.type "tuple", data := Data.seq #[Value.ref 38] }
noncomputable def k54 (P : Params) : Obj := { cls := Value.type "code", data := Data.fields #[Value.str (Str.ofString "__init__") 238, Value.str (Str.ofString "Refusal.__init__") 239, Value.str (Str.ofString "/claim/cut.py") 240, Value.int 14 0, Value.int 2 0, Value.int 0 0, Value.int 0 0, Value.int 3 0, Value.ref 49, Value.bool true, Value.int 181 0, Value.ref 50, Value.none, Value.ref 51, Value.ref 52, Value.ref 53, Value.int 243 0, Value.int 14 0, Value.str (Str.ofString "/claim/cut.py") 244] }
noncomputable def k55 (P : Params) : Obj := { cls := Value.type "function", data := Data.func { name := Str.ofString "__init__", qualname := Str.ofString "Refusal.__init__", params := P55, body := .stmts B55, scope := S55, globals := 3, closure := [], defaults := Value.none, kwdefaults := Value.none, pyModule := Value.str (Str.ofString "vectorcove.errors") 204, code := Value.ref 54 } }
noncomputable def k57 (P : Params) : Obj := { cls := Value.type "dict", data := Data.dict #[{ hash := PyData.keyHash P (Str.ofString "__module__"), key := Value.str (Str.ofString "__module__") 233, val := Value.str (Str.ofString "vectorcove.errors") 204 }, { hash := PyData.keyHash P (Str.ofString "__firstlineno__"), key := Value.str (Str.ofString "__firstlineno__") 237, val := Value.int 12 236 }, { hash := PyData.keyHash P (Str.ofString "__init__"), key := Value.str (Str.ofString "__init__") 245, val := Value.ref 55 }, { hash := PyData.keyHash P (Str.ofString "__static_attributes__"), key := Value.str (Str.ofString "__static_attributes__") 247, val := Value.ref 56 }, { hash := PyData.keyHash P (Str.ofString "__doc__"), key := Value.str (Str.ofString "__doc__") 248, val := Value.none }] 2 }
noncomputable def k58 (P : Params) : Obj := { cls := Value.type "type", data := Data.cls { name := Str.ofString "Refusal", bases := [Value.ref 38], mro := [Value.ref 58, Value.ref 38, Value.type "Exception", Value.type "BaseException", Value.type "object"], ns := 57, qualname := Str.ofString "Refusal" }, slots := #[some (Value.ref 42), none, some (Value.str (Str.ofString "Refusal") 226), some (Value.str (Str.ofString "Refusal") 234), some (Value.builtin "Exception.__new__"), some (Value.bool true)] }
noncomputable def k61 (P : Params) : Obj := { cls := Value.type "tuple", data := Data.seq #[Value.int 0 253, Value.int 0 254] }
noncomputable def k62 (P : Params) : Obj := { cls := Value.type "tuple", data := Data.seq #[Value.int 1 256, Value.int 0 257] }
noncomputable def k63 (P : Params) : Obj := { cls := Value.type "tuple", data := Data.seq #[Value.int 0 259, Value.int 1 260] }
noncomputable def k64 (P : Params) : Obj := { cls := Value.type "tuple", data := Data.seq #[Value.int 1 262, Value.int 1 263] }
noncomputable def k70 (P : Params) : Obj := { cls := Value.type "code", data := Data.fields #[Value.str (Str.ofString "gcd") 265, Value.str (Str.ofString "gcd") 266, Value.str (Str.ofString "/claim/cut.py") 267, Value.int 21 0, Value.int 2 0, Value.int 0 0, Value.int 0 0, Value.int 3 0, Value.ref 65, Value.bool true, Value.int 181 0, Value.ref 66, Value.none, Value.ref 67, Value.ref 68, Value.ref 69, Value.int 270 0, Value.int 21 0, Value.str (Str.ofString "/claim/cut.py") 271] }
noncomputable def k71 (P : Params) : Obj := { cls := Value.type "function", data := Data.func { name := Str.ofString "gcd", qualname := Str.ofString "gcd", params := P71, body := .stmts B71, scope := S71, globals := 3, closure := [], defaults := Value.none, kwdefaults := Value.none, pyModule := Value.str (Str.ofString "vectorcove.rational") 251, code := Value.ref 70 } }
noncomputable def k77 (P : Params) : Obj := { cls := Value.type "code", data := Data.fields #[Value.str (Str.ofString "make") 273, Value.str (Str.ofString "make") 274, Value.str (Str.ofString "/claim/cut.py") 275, Value.int 25 0, Value.int 2 0, Value.int 0 0, Value.int 0 0, Value.int 3 0, Value.ref 72, Value.bool true, Value.int 181 0, Value.ref 73, Value.none, Value.ref 74, Value.ref 75, Value.ref 76, Value.int 279 0, Value.int 25 0, Value.str (Str.ofString "/claim/cut.py") 280] }
noncomputable def k78 (P : Params) : Obj := { cls := Value.type "function", data := Data.func { name := Str.ofString "make", qualname := Str.ofString "make", params := P78, body := .stmts B78, scope := S78, globals := 3, closure := [], defaults := Value.none, kwdefaults := Value.none, pyModule := Value.str (Str.ofString "vectorcove.rational") 251, code := Value.ref 77 } }
noncomputable def k84 (P : Params) : Obj := { cls := Value.type "code", data := Data.fields #[Value.str (Str.ofString "from_int") 282, Value.str (Str.ofString "from_int") 283, Value.str (Str.ofString "/claim/cut.py") 284, Value.int 35 0, Value.int 1 0, Value.int 0 0, Value.int 0 0, Value.int 3 0, Value.ref 79, Value.bool true, Value.int 181 0, Value.ref 80, Value.none, Value.ref 81, Value.ref 82, Value.ref 83, Value.int 286 0, Value.int 35 0, Value.str (Str.ofString "/claim/cut.py") 287] }
noncomputable def k85 (P : Params) : Obj := { cls := Value.type "function", data := Data.func { name := Str.ofString "from_int", qualname := Str.ofString "from_int", params := P85, body := .stmts B85, scope := S85, globals := 3, closure := [], defaults := Value.none, kwdefaults := Value.none, pyModule := Value.str (Str.ofString "vectorcove.rational") 251, code := Value.ref 84 } }
noncomputable def k91 (P : Params) : Obj := { cls := Value.type "code", data := Data.fields #[Value.str (Str.ofString "is_na") 289, Value.str (Str.ofString "is_na") 290, Value.str (Str.ofString "/claim/cut.py") 291, Value.int 39 0, Value.int 1 0, Value.int 0 0, Value.int 0 0, Value.int 3 0, Value.ref 86, Value.bool true, Value.int 181 0, Value.ref 87, Value.none, Value.ref 88, Value.ref 89, Value.ref 90, Value.int 293 0, Value.int 39 0, Value.str (Str.ofString "/claim/cut.py") 294] }
noncomputable def k92 (P : Params) : Obj := { cls := Value.type "function", data := Data.func { name := Str.ofString "is_na", qualname := Str.ofString "is_na", params := P92, body := .stmts B92, scope := S92, globals := 3, closure := [], defaults := Value.none, kwdefaults := Value.none, pyModule := Value.str (Str.ofString "vectorcove.rational") 251, code := Value.ref 91 } }
noncomputable def k98 (P : Params) : Obj := { cls := Value.type "code", data := Data.fields #[Value.str (Str.ofString "is_nan") 296, Value.str (Str.ofString "is_nan") 297, Value.str (Str.ofString "/claim/cut.py") 298, Value.int 41 0, Value.int 1 0, Value.int 0 0, Value.int 0 0, Value.int 3 0, Value.ref 93, Value.bool true, Value.int 181 0, Value.ref 94, Value.none, Value.ref 95, Value.ref 96, Value.ref 97, Value.int 300 0, Value.int 41 0, Value.str (Str.ofString "/claim/cut.py") 301] }
noncomputable def k99 (P : Params) : Obj := { cls := Value.type "function", data := Data.func { name := Str.ofString "is_nan", qualname := Str.ofString "is_nan", params := P99, body := .stmts B99, scope := S99, globals := 3, closure := [], defaults := Value.none, kwdefaults := Value.none, pyModule := Value.str (Str.ofString "vectorcove.rational") 251, code := Value.ref 98 } }
noncomputable def k105 (P : Params) : Obj := { cls := Value.type "code", data := Data.fields #[Value.str (Str.ofString "is_finite") 303, Value.str (Str.ofString "is_finite") 304, Value.str (Str.ofString "/claim/cut.py") 305, Value.int 43 0, Value.int 1 0, Value.int 0 0, Value.int 0 0, Value.int 3 0, Value.ref 100, Value.bool true, Value.int 181 0, Value.ref 101, Value.none, Value.ref 102, Value.ref 103, Value.ref 104, Value.int 307 0, Value.int 43 0, Value.str (Str.ofString "/claim/cut.py") 308] }
noncomputable def k106 (P : Params) : Obj := { cls := Value.type "function", data := Data.func { name := Str.ofString "is_finite", qualname := Str.ofString "is_finite", params := P106, body := .stmts B106, scope := S106, globals := 3, closure := [], defaults := Value.none, kwdefaults := Value.none, pyModule := Value.str (Str.ofString "vectorcove.rational") 251, code := Value.ref 105 } }
noncomputable def k112 (P : Params) : Obj := { cls := Value.type "code", data := Data.fields #[Value.str (Str.ofString "sign") 310, Value.str (Str.ofString "sign") 311, Value.str (Str.ofString "/claim/cut.py") 312, Value.int 45 0, Value.int 1 0, Value.int 0 0, Value.int 0 0, Value.int 3 0, Value.ref 107, Value.bool true, Value.int 181 0, Value.ref 108, Value.none, Value.ref 109, Value.ref 110, Value.ref 111, Value.int 314 0, Value.int 45 0, Value.str (Str.ofString "/claim/cut.py") 315] }
noncomputable def k113 (P : Params) : Obj := { cls := Value.type "function", data := Data.func { name := Str.ofString "sign", qualname := Str.ofString "sign", params := P113, body := .stmts B113, scope := S113, globals := 3, closure := [], defaults := Value.none, kwdefaults := Value.none, pyModule := Value.str (Str.ofString "vectorcove.rational") 251, code := Value.ref 112 } }
noncomputable def k119 (P : Params) : Obj := { cls := Value.type "code", data := Data.fields #[Value.str (Str.ofString "marked") 317, Value.str (Str.ofString "marked") 318, Value.str (Str.ofString "/claim/cut.py") 319, Value.int 51 0, Value.int 2 0, Value.int 0 0, Value.int 0 0, Value.int 3 0, Value.ref 114, Value.bool true, Value.int 181 0, Value.ref 115, Value.none, Value.ref 116, Value.ref 117, Value.ref 118, Value.int 322 0, Value.int 51 0, Value.str (Str.ofString "/claim/cut.py") 323] }
noncomputable def k120 (P : Params) : Obj := { cls := Value.type "function", data := Data.func { name := Str.ofString "marked", qualname := Str.ofString "marked", params := P120, body := .stmts B120, scope := S120, globals := 3, closure := [], defaults := Value.none, kwdefaults := Value.none, pyModule := Value.str (Str.ofString "vectorcove.rational") 251, code := Value.ref 119 } }
noncomputable def k126 (P : Params) : Obj := { cls := Value.type "code", data := Data.fields #[Value.str (Str.ofString "neg") 325, Value.str (Str.ofString "neg") 326, Value.str (Str.ofString "/claim/cut.py") 327, Value.int 55 0, Value.int 1 0, Value.int 0 0, Value.int 0 0, Value.int 3 0, Value.ref 121, Value.bool true, Value.int 181 0, Value.ref 122, Value.none, Value.ref 123, Value.ref 124, Value.ref 125, Value.int 329 0, Value.int 55 0, Value.str (Str.ofString "/claim/cut.py") 330] }
noncomputable def k127 (P : Params) : Obj := { cls := Value.type "function", data := Data.func { name := Str.ofString "neg", qualname := Str.ofString "neg", params := P127, body := .stmts B127, scope := S127, globals := 3, closure := [], defaults := Value.none, kwdefaults := Value.none, pyModule := Value.str (Str.ofString "vectorcove.rational") 251, code := Value.ref 126 } }
noncomputable def k133 (P : Params) : Obj := { cls := Value.type "code", data := Data.fields #[Value.str (Str.ofString "mul") 332, Value.str (Str.ofString "mul") 333, Value.str (Str.ofString "/claim/cut.py") 334, Value.int 59 0, Value.int 2 0, Value.int 0 0, Value.int 0 0, Value.int 3 0, Value.ref 128, Value.bool true, Value.int 181 0, Value.ref 129, Value.none, Value.ref 130, Value.ref 131, Value.ref 132, Value.int 337 0, Value.int 59 0, Value.str (Str.ofString "/claim/cut.py") 338] }
noncomputable def k134 (P : Params) : Obj := { cls := Value.type "function", data := Data.func { name := Str.ofString "mul", qualname := Str.ofString "mul", params := P134, body := .stmts B134, scope := S134, globals := 3, closure := [], defaults := Value.none, kwdefaults := Value.none, pyModule := Value.str (Str.ofString "vectorcove.rational") 251, code := Value.ref 133 } }
noncomputable def k140 (P : Params) : Obj := { cls := Value.type "code", data := Data.fields #[Value.str (Str.ofString "div") 340, Value.str (Str.ofString "div") 341, Value.str (Str.ofString "/claim/cut.py") 342, Value.int 63 0, Value.int 2 0, Value.int 0 0, Value.int 0 0, Value.int 3 0, Value.ref 135, Value.bool true, Value.int 181 0, Value.ref 136, Value.none, Value.ref 137, Value.ref 138, Value.ref 139, Value.int 345 0, Value.int 63 0, Value.str (Str.ofString "/claim/cut.py") 346] }
noncomputable def k141 (P : Params) : Obj := { cls := Value.type "function", data := Data.func { name := Str.ofString "div", qualname := Str.ofString "div", params := P141, body := .stmts B141, scope := S141, globals := 3, closure := [], defaults := Value.none, kwdefaults := Value.none, pyModule := Value.str (Str.ofString "vectorcove.rational") 251, code := Value.ref 140 } }
noncomputable def k147 (P : Params) : Obj := { cls := Value.type "code", data := Data.fields #[Value.str (Str.ofString "isqrt") 348, Value.str (Str.ofString "isqrt") 349, Value.str (Str.ofString "/claim/cut.py") 350, Value.int 71 0, Value.int 1 0, Value.int 0 0, Value.int 0 0, Value.int 3 0, Value.ref 142, Value.bool true, Value.int 181 0, Value.ref 143, Value.none, Value.ref 144, Value.ref 145, Value.ref 146, Value.int 354 0, Value.int 71 0, Value.str (Str.ofString "/claim/cut.py") 355] }
noncomputable def k148 (P : Params) : Obj := { cls := Value.type "function", data := Data.func { name := Str.ofString "isqrt", qualname := Str.ofString "isqrt", params := P148, body := .stmts B148, scope := S148, globals := 3, closure := [], defaults := Value.none, kwdefaults := Value.none, pyModule := Value.str (Str.ofString "vectorcove.rational") 251, code := Value.ref 147 } }
noncomputable def k154 (P : Params) : Obj := { cls := Value.type "code", data := Data.fields #[Value.str (Str.ofString "root") 357, Value.str (Str.ofString "root") 358, Value.str (Str.ofString "/claim/cut.py") 359, Value.int 82 0, Value.int 1 0, Value.int 0 0, Value.int 0 0, Value.int 3 0, Value.ref 149, Value.bool true, Value.int 181 0, Value.ref 150, Value.none, Value.ref 151, Value.ref 152, Value.ref 153, Value.int 363 0, Value.int 82 0, Value.str (Str.ofString "/claim/cut.py") 364] }
noncomputable def k155 (P : Params) : Obj := { cls := Value.type "function", data := Data.func { name := Str.ofString "root", qualname := Str.ofString "root", params := P155, body := .stmts B155, scope := S155, globals := 3, closure := [], defaults := Value.none, kwdefaults := Value.none, pyModule := Value.str (Str.ofString "vectorcove.rational") 251, code := Value.ref 154 } }
noncomputable def k161 (P : Params) : Obj := { cls := Value.type "code", data := Data.fields #[Value.str (Str.ofString "floor") 366, Value.str (Str.ofString "floor") 367, Value.str (Str.ofString "/claim/cut.py") 368, Value.int 92 0, Value.int 1 0, Value.int 0 0, Value.int 0 0, Value.int 3 0, Value.ref 156, Value.bool true, Value.int 181 0, Value.ref 157, Value.none, Value.ref 158, Value.ref 159, Value.ref 160, Value.int 370 0, Value.int 92 0, Value.str (Str.ofString "/claim/cut.py") 371] }
noncomputable def k162 (P : Params) : Obj := { cls := Value.type "function", data := Data.func { name := Str.ofString "floor", qualname := Str.ofString "floor", params := P162, body := .stmts B162, scope := S162, globals := 3, closure := [], defaults := Value.none, kwdefaults := Value.none, pyModule := Value.str (Str.ofString "vectorcove.rational") 251, code := Value.ref 161 } }
noncomputable def k168 (P : Params) : Obj := { cls := Value.type "code", data := Data.fields #[Value.str (Str.ofString "ceiling") 373, Value.str (Str.ofString "ceiling") 374, Value.str (Str.ofString "/claim/cut.py") 375, Value.int 96 0, Value.int 1 0, Value.int 0 0, Value.int 0 0, Value.int 3 0, Value.ref 163, Value.bool true, Value.int 181 0, Value.ref 164, Value.none, Value.ref 165, Value.ref 166, Value.ref 167, Value.int 377 0, Value.int 96 0, Value.str (Str.ofString "/claim/cut.py") 378] }
noncomputable def k169 (P : Params) : Obj := { cls := Value.type "function", data := Data.func { name := Str.ofString "ceiling", qualname := Str.ofString "ceiling", params := P169, body := .stmts B169, scope := S169, globals := 3, closure := [], defaults := Value.none, kwdefaults := Value.none, pyModule := Value.str (Str.ofString "vectorcove.rational") 251, code := Value.ref 168 } }
noncomputable def k175 (P : Params) : Obj := { cls := Value.type "code", data := Data.fields #[Value.str (Str.ofString "trunc") 380, Value.str (Str.ofString "trunc") 381, Value.str (Str.ofString "/claim/cut.py") 382, Value.int 98 0, Value.int 1 0, Value.int 0 0, Value.int 0 0, Value.int 3 0, Value.ref 170, Value.bool true, Value.int 181 0, Value.ref 171, Value.none, Value.ref 172, Value.ref 173, Value.ref 174, Value.int 384 0, Value.int 98 0, Value.str (Str.ofString "/claim/cut.py") 385] }
noncomputable def k176 (P : Params) : Obj := { cls := Value.type "function", data := Data.func { name := Str.ofString "trunc", qualname := Str.ofString "trunc", params := P176, body := .stmts B176, scope := S176, globals := 3, closure := [], defaults := Value.none, kwdefaults := Value.none, pyModule := Value.str (Str.ofString "vectorcove.rational") 251, code := Value.ref 175 } }
noncomputable def k182 (P : Params) : Obj := { cls := Value.type "code", data := Data.fields #[Value.str (Str.ofString "to_whole") 387, Value.str (Str.ofString "to_whole") 388, Value.str (Str.ofString "/claim/cut.py") 389, Value.int 102 0, Value.int 1 0, Value.int 0 0, Value.int 0 0, Value.int 3 0, Value.ref 177, Value.bool true, Value.int 181 0, Value.ref 178, Value.none, Value.ref 179, Value.ref 180, Value.ref 181, Value.int 392 0, Value.int 102 0, Value.str (Str.ofString "/claim/cut.py") 393] }
noncomputable def k183 (P : Params) : Obj := { cls := Value.type "function", data := Data.func { name := Str.ofString "to_whole", qualname := Str.ofString "to_whole", params := P183, body := .stmts B183, scope := S183, globals := 3, closure := [], defaults := Value.none, kwdefaults := Value.none, pyModule := Value.str (Str.ofString "vectorcove.rational") 251, code := Value.ref 182 } }
noncomputable def k189 (P : Params) : Obj := { cls := Value.type "code", data := Data.fields #[Value.str (Str.ofString "nearest_whole") 395, Value.str (Str.ofString "nearest_whole") 396, Value.str (Str.ofString "/claim/cut.py") 397, Value.int 107 0, Value.int 2 0, Value.int 0 0, Value.int 0 0, Value.int 3 0, Value.ref 184, Value.bool true, Value.int 181 0, Value.ref 185, Value.none, Value.ref 186, Value.ref 187, Value.ref 188, Value.int 402 0, Value.int 107 0, Value.str (Str.ofString "/claim/cut.py") 403] }
noncomputable def k190 (P : Params) : Obj := { cls := Value.type "function", data := Data.func { name := Str.ofString "nearest_whole", qualname := Str.ofString "nearest_whole", params := P190, body := .stmts B190, scope := S190, globals := 3, closure := [], defaults := Value.none, kwdefaults := Value.none, pyModule := Value.str (Str.ofString "vectorcove.rational") 251, code := Value.ref 189 } }
noncomputable def k196 (P : Params) : Obj := { cls := Value.type "code", data := Data.fields #[Value.str (Str.ofString "rounded") 405, Value.str (Str.ofString "rounded") 406, Value.str (Str.ofString "/claim/cut.py") 407, Value.int 113 0, Value.int 2 0, Value.int 0 0, Value.int 0 0, Value.int 3 0, Value.ref 191, Value.bool true, Value.int 181 0, Value.ref 192, Value.none, Value.ref 193, Value.ref 194, Value.ref 195, Value.int 411 0, Value.int 113 0, Value.str (Str.ofString "/claim/cut.py") 412] }
noncomputable def k197 (P : Params) : Obj := { cls := Value.type "function", data := Data.func { name := Str.ofString "rounded", qualname := Str.ofString "rounded", params := P197, body := .stmts B197, scope := S197, globals := 3, closure := [], defaults := Value.none, kwdefaults := Value.none, pyModule := Value.str (Str.ofString "vectorcove.rational") 251, code := Value.ref 196 } }
noncomputable def k203 (P : Params) : Obj := { cls := Value.type "code", data := Data.fields #[Value.str (Str.ofString "round_half_even") 414, Value.str (Str.ofString "round_half_even") 415, Value.str (Str.ofString "/claim/cut.py") 416, Value.int 119 0, Value.int 2 0, Value.int 0 0, Value.int 0 0, Value.int 3 0, Value.ref 198, Value.bool true, Value.int 181 0, Value.ref 199, Value.none, Value.ref 200, Value.ref 201, Value.ref 202, Value.int 419 0, Value.int 119 0, Value.str (Str.ofString "/claim/cut.py") 420] }
noncomputable def k204 (P : Params) : Obj := { cls := Value.type "function", data := Data.func { name := Str.ofString "round_half_even", qualname := Str.ofString "round_half_even", params := P204, body := .stmts B204, scope := S204, globals := 3, closure := [], defaults := Value.none, kwdefaults := Value.none, pyModule := Value.str (Str.ofString "vectorcove.rational") 251, code := Value.ref 203 } }
noncomputable def k210 (P : Params) : Obj := { cls := Value.type "code", data := Data.fields #[Value.str (Str.ofString "exponent") 422, Value.str (Str.ofString "exponent") 423, Value.str (Str.ofString "/claim/cut.py") 424, Value.int 123 0, Value.int 1 0, Value.int 0 0, Value.int 0 0, Value.int 3 0, Value.ref 205, Value.bool true, Value.int 181 0, Value.ref 206, Value.none, Value.ref 207, Value.ref 208, Value.ref 209, Value.int 429 0, Value.int 123 0, Value.str (Str.ofString "/claim/cut.py") 430] }
noncomputable def k211 (P : Params) : Obj := { cls := Value.type "function", data := Data.func { name := Str.ofString "exponent", qualname := Str.ofString "exponent", params := P211, body := .stmts B211, scope := S211, globals := 3, closure := [], defaults := Value.none, kwdefaults := Value.none, pyModule := Value.str (Str.ofString "vectorcove.rational") 251, code := Value.ref 210 } }
noncomputable def k217 (P : Params) : Obj := { cls := Value.type "code", data := Data.fields #[Value.str (Str.ofString "signif") 432, Value.str (Str.ofString "signif") 433, Value.str (Str.ofString "/claim/cut.py") 434, Value.int 134 0, Value.int 2 0, Value.int 0 0, Value.int 0 0, Value.int 3 0, Value.ref 212, Value.bool true, Value.int 181 0, Value.ref 213, Value.none, Value.ref 214, Value.ref 215, Value.ref 216, Value.int 437 0, Value.int 134 0, Value.str (Str.ofString "/claim/cut.py") 438] }
noncomputable def k218 (P : Params) : Obj := { cls := Value.type "function", data := Data.func { name := Str.ofString "signif", qualname := Str.ofString "signif", params := P218, body := .stmts B218, scope := S218, globals := 3, closure := [], defaults := Value.none, kwdefaults := Value.none, pyModule := Value.str (Str.ofString "vectorcove.rational") 251, code := Value.ref 217 } }
noncomputable def k224 (P : Params) : Obj := { cls := Value.type "code", data := Data.fields #[Value.str (Str.ofString "compare") 440, Value.str (Str.ofString "compare") 441, Value.str (Str.ofString "/claim/cut.py") 442, Value.int 138 0, Value.int 2 0, Value.int 0 0, Value.int 0 0, Value.int 3 0, Value.ref 219, Value.bool true, Value.int 181 0, Value.ref 220, Value.none, Value.ref 221, Value.ref 222, Value.ref 223, Value.int 447 0, Value.int 138 0, Value.str (Str.ofString "/claim/cut.py") 448] }
noncomputable def k225 (P : Params) : Obj := { cls := Value.type "function", data := Data.func { name := Str.ofString "compare", qualname := Str.ofString "compare", params := P225, body := .stmts B225, scope := S225, globals := 3, closure := [], defaults := Value.none, kwdefaults := Value.none, pyModule := Value.str (Str.ofString "vectorcove.rational") 251, code := Value.ref 224 } }
noncomputable def k233 (P : Params) : Obj := { cls := Value.type "tuple", data := Data.seq #[Value.none] }
noncomputable def k239 (P : Params) : Obj := { cls := Value.type "code", data := Data.fields #[Value.str (Str.ofString "__init__") 464, Value.str (Str.ofString "Vector.__init__") 465, Value.str (Str.ofString "/claim/cut.py") 466, Value.int 159 0, Value.int 4 0, Value.int 0 0, Value.int 0 0, Value.int 3 0, Value.ref 234, Value.bool true, Value.int 181 0, Value.ref 235, Value.none, Value.ref 236, Value.ref 237, Value.ref 238, Value.int 471 0, Value.int 159 0, Value.str (Str.ofString "/claim/cut.py") 472] }
noncomputable def k240 (P : Params) : Obj := { cls := Value.type "function", data := Data.func { name := Str.ofString "__init__", qualname := Str.ofString "Vector.__init__", params := P240, body := .stmts B240, scope := S240, globals := 3, closure := [], defaults := Value.ref 233, kwdefaults := Value.none, pyModule := Value.str (Str.ofString "vectorcove.values") 450, code := Value.ref 239 } }
noncomputable def k246 (P : Params) : Obj := { cls := Value.type "code", data := Data.fields #[Value.str (Str.ofString "copy") 474, Value.str (Str.ofString "Vector.copy") 475, Value.str (Str.ofString "/claim/cut.py") 476, Value.int 166 0, Value.int 1 0, Value.int 0 0, Value.int 0 0, Value.int 3 0, Value.ref 241, Value.bool true, Value.int 181 0, Value.ref 242, Value.none, Value.ref 243, Value.ref 244, Value.ref 245, Value.int 478 0, Value.int 166 0, Value.str (Str.ofString "/claim/cut.py") 479] }
noncomputable def k247 (P : Params) : Obj := { cls := Value.type "function", data := Data.func { name := Str.ofString "copy", qualname := Str.ofString "Vector.copy", params := P247, body := .stmts B247, scope := S247, globals := 3, closure := [], defaults := Value.none, kwdefaults := Value.none, pyModule := Value.str (Str.ofString "vectorcove.values") 450, code := Value.ref 246 } }
noncomputable def k249 (P : Params) : Obj := { cls := Value.type "dict", data := Data.dict #[{ hash := PyData.keyHash P (Str.ofString "__module__"), key := Value.str (Str.ofString "__module__") 459, val := Value.str (Str.ofString "vectorcove.values") 450 }, { hash := PyData.keyHash P (Str.ofString "__firstlineno__"), key := Value.str (Str.ofString "__firstlineno__") 463, val := Value.int 157 462 }, { hash := PyData.keyHash P (Str.ofString "__init__"), key := Value.str (Str.ofString "__init__") 473, val := Value.ref 240 }, { hash := PyData.keyHash P (Str.ofString "copy"), key := Value.str (Str.ofString "copy") 480, val := Value.ref 247 }, { hash := PyData.keyHash P (Str.ofString "__static_attributes__"), key := Value.str (Str.ofString "__static_attributes__") 486, val := Value.ref 248 }, { hash := PyData.keyHash P (Str.ofString "__dict__"), key := Value.str (Str.ofString "__dict__") 488, val := Value.ref 251 }, { hash := PyData.keyHash P (Str.ofString "__weakref__"), key := Value.str (Str.ofString "__weakref__") 490, val := Value.ref 252 }, { hash := PyData.keyHash P (Str.ofString "__doc__"), key := Value.str (Str.ofString "__doc__") 491, val := Value.none }] 4 }
noncomputable def k250 (P : Params) : Obj := { cls := Value.type "type", data := Data.cls { name := Str.ofString "Vector", bases := [Value.type "object"], mro := [Value.ref 250, Value.type "object"], ns := 249, qualname := Str.ofString "Vector" }, slots := #[none, none, some (Value.str (Str.ofString "Vector") 452), some (Value.str (Str.ofString "Vector") 460), some (Value.builtin "object.__new__"), some (Value.bool true)] }
noncomputable def k251 (P : Params) : Obj := { cls := Value.type "getset_descriptor", data := Data.fields #[Value.str (Str.ofString "__dict__") 487, Value.ref 250, Value.builtin "function.__dict__", Value.builtin "function.__dict__#set"] }
noncomputable def k252 (P : Params) : Obj := { cls := Value.type "getset_descriptor", data := Data.fields #[Value.str (Str.ofString "__weakref__") 489, Value.ref 250, Value.builtin "ExceptionGroup.__weakref__", Value.none] }
noncomputable def k260 (P : Params) : Obj := { cls := Value.type "code", data := Data.fields #[Value.str (Str.ofString "check_math") 498, Value.str (Str.ofString "check_math") 499, Value.str (Str.ofString "/claim/cut.py") 500, Value.int 170 0, Value.int 1 0, Value.int 0 0, Value.int 0 0, Value.int 3 0, Value.ref 255, Value.bool true, Value.int 181 0, Value.ref 256, Value.none, Value.ref 257, Value.ref 258, Value.ref 259, Value.int 502 0, Value.int 170 0, Value.str (Str.ofString "/claim/cut.py") 503] }
noncomputable def k261 (P : Params) : Obj := { cls := Value.type "function", data := Data.func { name := Str.ofString "check_math", qualname := Str.ofString "check_math", params := P261, body := .stmts B261, scope := S261, globals := 3, closure := [], defaults := Value.none, kwdefaults := Value.none, pyModule := Value.str (Str.ofString "vectorcove.mathfun") 494, code := Value.ref 260 } }
noncomputable def k265 (P : Params) : Obj := { cls := Value.type "code", data := Data.fields #[Value.str (Str.ofString "doubles") 505, Value.str (Str.ofString "doubles") 506, Value.str (Str.ofString "/claim/cut.py") 507, Value.int 173 0, Value.int 1 0, Value.int 0 0, Value.int 0 0, Value.int 3 0, Value.ref 262, Value.bool true, Value.int 181 0, Value.ref 263, Value.none, Value.none, Value.none, Value.ref 264, Value.int 508 0, Value.int 173 0, Value.str (Str.ofString "/claim/cut.py") 509] }
noncomputable def k266 (P : Params) : Obj := { cls := Value.type "function", data := Data.func { name := Str.ofString "doubles", qualname := Str.ofString "doubles", params := P266, body := .stmts B266, scope := S266, globals := 3, closure := [], defaults := Value.none, kwdefaults := Value.none, pyModule := Value.str (Str.ofString "vectorcove.mathfun") 494, code := Value.ref 265 } }
noncomputable def k272 (P : Params) : Obj := { cls := Value.type "code", data := Data.fields #[Value.str (Str.ofString "abs_item") 511, Value.str (Str.ofString "abs_item") 512, Value.str (Str.ofString "/claim/cut.py") 513, Value.int 177 0, Value.int 1 0, Value.int 0 0, Value.int 0 0, Value.int 3 0, Value.ref 267, Value.bool true, Value.int 181 0, Value.ref 268, Value.none, Value.ref 269, Value.ref 270, Value.ref 271, Value.int 515 0, Value.int 177 0, Value.str (Str.ofString "/claim/cut.py") 516] }
noncomputable def k273 (P : Params) : Obj := { cls := Value.type "function", data := Data.func { name := Str.ofString "abs_item", qualname := Str.ofString "abs_item", params := P273, body := .stmts B273, scope := S273, globals := 3, closure := [], defaults := Value.none, kwdefaults := Value.none, pyModule := Value.str (Str.ofString "vectorcove.mathfun") 494, code := Value.ref 272 } }
noncomputable def k279 (P : Params) : Obj := { cls := Value.type "code", data := Data.fields #[Value.str (Str.ofString "sign_item") 518, Value.str (Str.ofString "sign_item") 519, Value.str (Str.ofString "/claim/cut.py") 520, Value.int 181 0, Value.int 1 0, Value.int 0 0, Value.int 0 0, Value.int 3 0, Value.ref 274, Value.bool true, Value.int 181 0, Value.ref 275, Value.none, Value.ref 276, Value.ref 277, Value.ref 278, Value.int 522 0, Value.int 181 0, Value.str (Str.ofString "/claim/cut.py") 523] }
noncomputable def k280 (P : Params) : Obj := { cls := Value.type "function", data := Data.func { name := Str.ofString "sign_item", qualname := Str.ofString "sign_item", params := P280, body := .stmts B280, scope := S280, globals := 3, closure := [], defaults := Value.none, kwdefaults := Value.none, pyModule := Value.str (Str.ofString "vectorcove.mathfun") 494, code := Value.ref 279 } }
noncomputable def k286 (P : Params) : Obj := { cls := Value.type "code", data := Data.fields #[Value.str (Str.ofString "exp_item") 525, Value.str (Str.ofString "exp_item") 526, Value.str (Str.ofString "/claim/cut.py") 527, Value.int 185 0, Value.int 1 0, Value.int 0 0, Value.int 0 0, Value.int 3 0, Value.ref 281, Value.bool true, Value.int 181 0, Value.ref 282, Value.none, Value.ref 283, Value.ref 284, Value.ref 285, Value.int 529 0, Value.int 185 0, Value.str (Str.ofString "/claim/cut.py") 530] }
noncomputable def k287 (P : Params) : Obj := { cls := Value.type "function", data := Data.func { name := Str.ofString "exp_item", qualname := Str.ofString "exp_item", params := P287, body := .stmts B287, scope := S287, globals := 3, closure := [], defaults := Value.none, kwdefaults := Value.none, pyModule := Value.str (Str.ofString "vectorcove.mathfun") 494, code := Value.ref 286 } }
noncomputable def k293 (P : Params) : Obj := { cls := Value.type "code", data := Data.fields #[Value.str (Str.ofString "log_item") 532, Value.str (Str.ofString "log_item") 533, Value.str (Str.ofString "/claim/cut.py") 534, Value.int 193 0, Value.int 1 0, Value.int 0 0, Value.int 0 0, Value.int 3 0, Value.ref 288, Value.bool true, Value.int 181 0, Value.ref 289, Value.none, Value.ref 290, Value.ref 291, Value.ref 292, Value.int 536 0, Value.int 193 0, Value.str (Str.ofString "/claim/cut.py") 537] }
noncomputable def k294 (P : Params) : Obj := { cls := Value.type "function", data := Data.func { name := Str.ofString "log_item", qualname := Str.ofString "log_item", params := P294, body := .stmts B294, scope := S294, globals := 3, closure := [], defaults := Value.none, kwdefaults := Value.none, pyModule := Value.str (Str.ofString "vectorcove.mathfun") 494, code := Value.ref 293 } }
noncomputable def k300 (P : Params) : Obj := { cls := Value.type "code", data := Data.fields #[Value.str (Str.ofString "log_above") 539, Value.str (Str.ofString "log_above") 540, Value.str (Str.ofString "/claim/cut.py") 541, Value.int 203 0, Value.int 2 0, Value.int 0 0, Value.int 0 0, Value.int 3 0, Value.ref 295, Value.bool true, Value.int 181 0, Value.ref 296, Value.none, Value.ref 297, Value.ref 298, Value.ref 299, Value.int 546 0, Value.int 203 0, Value.str (Str.ofString "/claim/cut.py") 547] }
noncomputable def k301 (P : Params) : Obj := { cls := Value.type "function", data := Data.func { name := Str.ofString "log_above", qualname := Str.ofString "log_above", params := P301, body := .stmts B301, scope := S301, globals := 3, closure := [], defaults := Value.none, kwdefaults := Value.none, pyModule := Value.str (Str.ofString "vectorcove.mathfun") 494, code := Value.ref 300 } }
noncomputable def k307 (P : Params) : Obj := { cls := Value.type "code", data := Data.fields #[Value.str (Str.ofString "log_to") 549, Value.str (Str.ofString "log_to") 550, Value.str (Str.ofString "/claim/cut.py") 551, Value.int 212 0, Value.int 2 0, Value.int 0 0, Value.int 0 0, Value.int 3 0, Value.ref 302, Value.bool true, Value.int 181 0, Value.ref 303, Value.none, Value.ref 304, Value.ref 305, Value.ref 306, Value.int 554 0, Value.int 212 0, Value.str (Str.ofString "/claim/cut.py") 555] }
noncomputable def k308 (P : Params) : Obj := { cls := Value.type "function", data := Data.func { name := Str.ofString "log_to", qualname := Str.ofString "log_to", params := P308, body := .stmts B308, scope := S308, globals := 3, closure := [], defaults := Value.none, kwdefaults := Value.none, pyModule := Value.str (Str.ofString "vectorcove.mathfun") 494, code := Value.ref 307 } }
noncomputable def k314 (P : Params) : Obj := { cls := Value.type "code", data := Data.fields #[Value.str (Str.ofString "math_item") 557, Value.str (Str.ofString "math_item") 558, Value.str (Str.ofString "/claim/cut.py") 559, Value.int 224 0, Value.int 2 0, Value.int 0 0, Value.int 0 0, Value.int 3 0, Value.ref 309, Value.bool true, Value.int 181 0, Value.ref 310, Value.none, Value.ref 311, Value.ref 312, Value.ref 313, Value.int 562 0, Value.int 224 0, Value.str (Str.ofString "/claim/cut.py") 563] }
noncomputable def k315 (P : Params) : Obj := { cls := Value.type "function", data := Data.func { name := Str.ofString "math_item", qualname := Str.ofString "math_item", params := P315, body := .stmts B315, scope := S315, globals := 3, closure := [], defaults := Value.none, kwdefaults := Value.none, pyModule := Value.str (Str.ofString "vectorcove.mathfun") 494, code := Value.ref 314 } }
noncomputable def k319 (P : Params) : Obj := { cls := Value.type "code", data := Data.fields #[Value.str (Str.ofString "math1") 565, Value.str (Str.ofString "math1") 566, Value.str (Str.ofString "/claim/cut.py") 567, Value.int 244 0, Value.int 3 0, Value.int 0 0, Value.int 0 0, Value.int 3 0, Value.ref 316, Value.bool true, Value.int 181 0, Value.ref 317, Value.none, Value.none, Value.none, Value.ref 318, Value.int 568 0, Value.int 244 0, Value.str (Str.ofString "/claim/cut.py") 569] }
noncomputable def k320 (P : Params) : Obj := { cls := Value.type "function", data := Data.func { name := Str.ofString "math1", qualname := Str.ofString "math1", params := P320, body := .stmts B320, scope := S320, globals := 3, closure := [], defaults := Value.none, kwdefaults := Value.none, pyModule := Value.str (Str.ofString "vectorcove.mathfun") 494, code := Value.ref 319 } }
noncomputable def k324 (P : Params) : Obj := { cls := Value.type "code", data := Data.fields #[Value.str (Str.ofString "round_to") 571, Value.str (Str.ofString "round_to") 572, Value.str (Str.ofString "/claim/cut.py") 573, Value.int 258 0, Value.int 2 0, Value.int 0 0, Value.int 0 0, Value.int 3 0, Value.ref 321, Value.bool true, Value.int 181 0, Value.ref 322, Value.none, Value.none, Value.none, Value.ref 323, Value.int 574 0, Value.int 258 0, Value.str (Str.ofString "/claim/cut.py") 575] }
noncomputable def k325 (P : Params) : Obj := { cls := Value.type "function", data := Data.func { name := Str.ofString "round_to", qualname := Str.ofString "round_to", params := P325, body := .stmts B325, scope := S325, globals := 3, closure := [], defaults := Value.none, kwdefaults := Value.none, pyModule := Value.str (Str.ofString "vectorcove.mathfun") 494, code := Value.ref 324 } }
noncomputable def k329 (P : Params) : Obj := { cls := Value.type "code", data := Data.fields #[Value.str (Str.ofString "signif_to") 577, Value.str (Str.ofString "signif_to") 578, Value.str (Str.ofString "/claim/cut.py") 579, Value.int 263 0, Value.int 2 0, Value.int 0 0, Value.int 0 0, Value.int 3 0, Value.ref 326, Value.bool true, Value.int 181 0, Value.ref 327, Value.none, Value.none, Value.none, Value.ref 328, Value.int 580 0, Value.int 263 0, Value.str (Str.ofString "/claim/cut.py") 581] }
noncomputable def k330 (P : Params) : Obj := { cls := Value.type "function", data := Data.func { name := Str.ofString "signif_to", qualname := Str.ofString "signif_to", params := P330, body := .stmts B330, scope := S330, globals := 3, closure := [], defaults := Value.none, kwdefaults := Value.none, pyModule := Value.str (Str.ofString "vectorcove.mathfun") 494, code := Value.ref 329 } }
noncomputable def k336 (P : Params) : Obj := { cls := Value.type "code", data := Data.fields #[Value.str (Str.ofString "_law_row") 585, Value.str (Str.ofString "_law_row") 586, Value.str (Str.ofString "/claim/cut.py") 587, Value.int 269 0, Value.int 1 0, Value.int 0 0, Value.int 0 0, Value.int 3 0, Value.ref 331, Value.bool true, Value.int 181 0, Value.ref 332, Value.none, Value.ref 333, Value.ref 334, Value.ref 335, Value.int 593 0, Value.int 269 0, Value.str (Str.ofString "/claim/cut.py") 594] }
noncomputable def k337 (P : Params) : Obj := { cls := Value.type "function", data := Data.func { name := Str.ofString "_law_row", qualname := Str.ofString "_law_row", params := P337, body := .stmts B337, scope := S337, globals := 3, closure := [], defaults := Value.none, kwdefaults := Value.none, pyModule := Value.str (Str.ofString "law_nz0482_01") 583, code := Value.ref 336 } }
noncomputable def k343 (P : Params) : Obj := { cls := Value.type "code", data := Data.fields #[Value.str (Str.ofString "_law_next") 596, Value.str (Str.ofString "_law_next") 597, Value.str (Str.ofString "/claim/cut.py") 598, Value.int 282 0, Value.int 1 0, Value.int 0 0, Value.int 0 0, Value.int 3 0, Value.ref 338, Value.bool true, Value.int 181 0, Value.ref 339, Value.none, Value.ref 340, Value.ref 341, Value.ref 342, Value.int 600 0, Value.int 282 0, Value.str (Str.ofString "/claim/cut.py") 601] }
noncomputable def k344 (P : Params) : Obj := { cls := Value.type "function", data := Data.func { name := Str.ofString "_law_next", qualname := Str.ofString "_law_next", params := P344, body := .stmts B344, scope := S344, globals := 3, closure := [], defaults := Value.none, kwdefaults := Value.none, pyModule := Value.str (Str.ofString "law_nz0482_01") 583, code := Value.ref 343 } }
noncomputable def k350 (P : Params) : Obj := { cls := Value.type "code", data := Data.fields #[Value.str (Str.ofString "_law_reduced") 603, Value.str (Str.ofString "_law_reduced") 604, Value.str (Str.ofString "/claim/cut.py") 605, Value.int 284 0, Value.int 2 0, Value.int 0 0, Value.int 0 0, Value.int 3 0, Value.ref 345, Value.bool true, Value.int 181 0, Value.ref 346, Value.none, Value.ref 347, Value.ref 348, Value.ref 349, Value.int 610 0, Value.int 284 0, Value.str (Str.ofString "/claim/cut.py") 611] }
noncomputable def k351 (P : Params) : Obj := { cls := Value.type "function", data := Data.func { name := Str.ofString "_law_reduced", qualname := Str.ofString "_law_reduced", params := P351, body := .stmts B351, scope := S351, globals := 3, closure := [], defaults := Value.none, kwdefaults := Value.none, pyModule := Value.str (Str.ofString "law_nz0482_01") 583, code := Value.ref 350 } }
noncomputable def k357 (P : Params) : Obj := { cls := Value.type "code", data := Data.fields #[Value.str (Str.ofString "_law_kept") 613, Value.str (Str.ofString "_law_kept") 614, Value.str (Str.ofString "/claim/cut.py") 615, Value.int 290 0, Value.int 1 0, Value.int 0 0, Value.int 0 0, Value.int 3 0, Value.ref 352, Value.bool true, Value.int 181 0, Value.ref 353, Value.none, Value.ref 354, Value.ref 355, Value.ref 356, Value.int 618 0, Value.int 290 0, Value.str (Str.ofString "/claim/cut.py") 619] }
noncomputable def k358 (P : Params) : Obj := { cls := Value.type "function", data := Data.func { name := Str.ofString "_law_kept", qualname := Str.ofString "_law_kept", params := P358, body := .stmts B358, scope := S358, globals := 3, closure := [], defaults := Value.none, kwdefaults := Value.none, pyModule := Value.str (Str.ofString "law_nz0482_01") 583, code := Value.ref 357 } }
noncomputable def k362 (P : Params) : Obj := { cls := Value.type "code", data := Data.fields #[Value.str (Str.ofString "_law_seen") 621, Value.str (Str.ofString "_law_seen") 622, Value.str (Str.ofString "/claim/cut.py") 623, Value.int 295 0, Value.int 1 0, Value.int 0 0, Value.int 0 0, Value.int 3 0, Value.ref 359, Value.bool true, Value.int 181 0, Value.ref 360, Value.none, Value.none, Value.none, Value.ref 361, Value.int 624 0, Value.int 295 0, Value.str (Str.ofString "/claim/cut.py") 625] }
noncomputable def k363 (P : Params) : Obj := { cls := Value.type "function", data := Data.func { name := Str.ofString "_law_seen", qualname := Str.ofString "_law_seen", params := P363, body := .stmts B363, scope := S363, globals := 3, closure := [], defaults := Value.none, kwdefaults := Value.none, pyModule := Value.str (Str.ofString "law_nz0482_01") 583, code := Value.ref 362 } }
noncomputable def k369 (P : Params) : Obj := { cls := Value.type "code", data := Data.fields #[Value.str (Str.ofString "_law_item") 627, Value.str (Str.ofString "_law_item") 628, Value.str (Str.ofString "/claim/cut.py") 629, Value.int 299 0, Value.int 1 0, Value.int 0 0, Value.int 0 0, Value.int 3 0, Value.ref 364, Value.bool true, Value.int 181 0, Value.ref 365, Value.none, Value.ref 366, Value.ref 367, Value.ref 368, Value.int 635 0, Value.int 299 0, Value.str (Str.ofString "/claim/cut.py") 636] }
noncomputable def k370 (P : Params) : Obj := { cls := Value.type "function", data := Data.func { name := Str.ofString "_law_item", qualname := Str.ofString "_law_item", params := P370, body := .stmts B370, scope := S370, globals := 3, closure := [], defaults := Value.none, kwdefaults := Value.none, pyModule := Value.str (Str.ofString "law_nz0482_01") 583, code := Value.ref 369 } }
noncomputable def k374 (P : Params) : Obj := { cls := Value.type "code", data := Data.fields #[Value.str (Str.ofString "_law_vector") 638, Value.str (Str.ofString "_law_vector") 639, Value.str (Str.ofString "/claim/cut.py") 640, Value.int 311 0, Value.int 1 0, Value.int 0 0, Value.int 0 0, Value.int 3 0, Value.ref 371, Value.bool true, Value.int 181 0, Value.ref 372, Value.none, Value.none, Value.none, Value.ref 373, Value.int 641 0, Value.int 311 0, Value.str (Str.ofString "/claim/cut.py") 642] }
noncomputable def k375 (P : Params) : Obj := { cls := Value.type "function", data := Data.func { name := Str.ofString "_law_vector", qualname := Str.ofString "_law_vector", params := P375, body := .stmts B375, scope := S375, globals := 3, closure := [], defaults := Value.none, kwdefaults := Value.none, pyModule := Value.str (Str.ofString "law_nz0482_01") 583, code := Value.ref 374 } }
noncomputable def k381 (P : Params) : Obj := { cls := Value.type "code", data := Data.fields #[Value.str (Str.ofString "_law_step") 644, Value.str (Str.ofString "_law_step") 645, Value.str (Str.ofString "/claim/cut.py") 646, Value.int 328 0, Value.int 2 0, Value.int 0 0, Value.int 0 0, Value.int 3 0, Value.ref 376, Value.bool true, Value.int 181 0, Value.ref 377, Value.none, Value.ref 378, Value.ref 379, Value.ref 380, Value.int 651 0, Value.int 328 0, Value.str (Str.ofString "/claim/cut.py") 652] }
noncomputable def k382 (P : Params) : Obj := { cls := Value.type "function", data := Data.func { name := Str.ofString "_law_step", qualname := Str.ofString "_law_step", params := P382, body := .stmts B382, scope := S382, globals := 3, closure := [], defaults := Value.none, kwdefaults := Value.none, pyModule := Value.str (Str.ofString "law_nz0482_01") 583, code := Value.ref 381 } }
noncomputable def k386 (P : Params) : Obj := { cls := Value.type "code", data := Data.fields #[Value.str (Str.ofString "_law_value") 654, Value.str (Str.ofString "_law_value") 655, Value.str (Str.ofString "/claim/cut.py") 656, Value.int 338 0, Value.int 2 0, Value.int 0 0, Value.int 0 0, Value.int 3 0, Value.ref 383, Value.bool true, Value.int 181 0, Value.ref 384, Value.none, Value.none, Value.none, Value.ref 385, Value.int 657 0, Value.int 338 0, Value.str (Str.ofString "/claim/cut.py") 658] }
noncomputable def k387 (P : Params) : Obj := { cls := Value.type "function", data := Data.func { name := Str.ofString "_law_value", qualname := Str.ofString "_law_value", params := P387, body := .stmts B387, scope := S387, globals := 3, closure := [], defaults := Value.none, kwdefaults := Value.none, pyModule := Value.str (Str.ofString "law_nz0482_01") 583, code := Value.ref 386 } }
noncomputable def k393 (P : Params) : Obj := { cls := Value.type "code", data := Data.fields #[Value.str (Str.ofString "_law_rounded") 660, Value.str (Str.ofString "_law_rounded") 661, Value.str (Str.ofString "/claim/cut.py") 662, Value.int 359 0, Value.int 2 0, Value.int 0 0, Value.int 0 0, Value.int 3 0, Value.ref 388, Value.bool true, Value.int 181 0, Value.ref 389, Value.none, Value.ref 390, Value.ref 391, Value.ref 392, Value.int 669 0, Value.int 359 0, Value.str (Str.ofString "/claim/cut.py") 670] }
noncomputable def k394 (P : Params) : Obj := { cls := Value.type "function", data := Data.func { name := Str.ofString "_law_rounded", qualname := Str.ofString "_law_rounded", params := P394, body := .stmts B394, scope := S394, globals := 3, closure := [], defaults := Value.none, kwdefaults := Value.none, pyModule := Value.str (Str.ofString "law_nz0482_01") 583, code := Value.ref 393 } }
noncomputable def k400 (P : Params) : Obj := { cls := Value.type "code", data := Data.fields #[Value.str (Str.ofString "_law_shortened") 672, Value.str (Str.ofString "_law_shortened") 673, Value.str (Str.ofString "/claim/cut.py") 674, Value.int 369 0, Value.int 2 0, Value.int 0 0, Value.int 0 0, Value.int 3 0, Value.ref 395, Value.bool true, Value.int 181 0, Value.ref 396, Value.none, Value.ref 397, Value.ref 398, Value.ref 399, Value.int 679 0, Value.int 369 0, Value.str (Str.ofString "/claim/cut.py") 680] }
noncomputable def k401 (P : Params) : Obj := { cls := Value.type "function", data := Data.func { name := Str.ofString "_law_shortened", qualname := Str.ofString "_law_shortened", params := P401, body := .stmts B401, scope := S401, globals := 3, closure := [], defaults := Value.none, kwdefaults := Value.none, pyModule := Value.str (Str.ofString "law_nz0482_01") 583, code := Value.ref 400 } }
noncomputable def k405 (P : Params) : Obj := { cls := Value.type "code", data := Data.fields #[Value.str (Str.ofString "law") 682, Value.str (Str.ofString "law") 683, Value.str (Str.ofString "/claim/cut.py") 684, Value.int 380 0, Value.int 1 0, Value.int 0 0, Value.int 0 0, Value.int 3 0, Value.ref 402, Value.bool true, Value.int 181 0, Value.ref 403, Value.none, Value.none, Value.none, Value.ref 404, Value.int 685 0, Value.int 380 0, Value.str (Str.ofString "/claim/cut.py") 686] }
noncomputable def k406 (P : Params) : Obj := { cls := Value.type "function", data := Data.func { name := Str.ofString "law", qualname := Str.ofString "law", params := P406, body := .stmts B406, scope := S406, globals := 3, closure := [], defaults := Value.none, kwdefaults := Value.none, pyModule := Value.str (Str.ofString "law_nz0482_01") 583, code := Value.ref 405 } }
noncomputable def frag (P : Params) : Frag := [(2, k2 P), (3, k3 P), (20, k20 P), (21, k21 P), (27, k27 P), (28, k28 P), (29, k29 P), (37, k37 P), (38, k38 P), (39, k39 P), (42, k42 P), (54, k54 P), (55, k55 P), (57, k57 P), (58, k58 P), (61, k61 P), (62, k62 P), (63, k63 P), (64, k64 P), (70, k70 P), (71, k71 P), (77, k77 P), (78, k78 P), (84, k84 P), (85, k85 P), (91, k91 P), (92, k92 P), (98, k98 P), (99, k99 P), (105, k105 P), (106, k106 P), (112, k112 P), (113, k113 P), (119, k119 P), (120, k120 P), (126, k126 P), (127, k127 P), (133, k133 P), (134, k134 P), (140, k140 P), (141, k141 P), (147, k147 P), (148, k148 P), (154, k154 P), (155, k155 P), (161, k161 P), (162, k162 P), (168, k168 P), (169, k169 P), (175, k175 P), (176, k176 P), (182, k182 P), (183, k183 P), (189, k189 P), (190, k190 P), (196, k196 P), (197, k197 P), (203, k203 P), (204, k204 P), (210, k210 P), (211, k211 P), (217, k217 P), (218, k218 P), (224, k224 P), (225, k225 P), (233, k233 P), (239, k239 P), (240, k240 P), (246, k246 P), (247, k247 P), (249, k249 P), (250, k250 P), (251, k251 P), (252, k252 P), (260, k260 P), (261, k261 P), (265, k265 P), (266, k266 P), (272, k272 P), (273, k273 P), (279, k279 P), (280, k280 P), (286, k286 P), (287, k287 P), (293, k293 P), (294, k294 P), (300, k300 P), (301, k301 P), (307, k307 P), (308, k308 P), (314, k314 P), (315, k315 P), (319, k319 P), (320, k320 P), (324, k324 P), (325, k325 P), (329, k329 P), (330, k330 P), (336, k336 P), (337, k337 P), (343, k343 P), (344, k344 P), (350, k350 P), (351, k351 P), (357, k357 P), (358, k358 P), (362, k362 P), (363, k363 P), (369, k369 P), (370, k370 P), (374, k374 P), (375, k375 P), (381, k381 P), (382, k382 P), (386, k386 P), (387, k387 P), (393, k393 P), (394, k394 P), (400, k400 P), (401, k401 P), (405, k405 P), (406, k406 P)]
noncomputable def fragAt : List Addr := [2, 3, 20, 21, 27, 28, 29, 37, 38, 39, 42, 54, 55, 57, 58, 61, 62, 63, 64, 70, 71, 77, 78, 84, 85, 91, 92, 98, 99, 105, 106, 112, 113, 119, 120, 126, 127, 133, 134, 140, 141, 147, 148, 154, 155, 161, 162, 168, 169, 175, 176, 182, 183, 189, 190, 196, 197, 203, 204, 210, 211, 217, 218, 224, 225, 233, 239, 240, 246, 247, 249, 250, 251, 252, 260, 261, 265, 266, 272, 273, 279, 280, 286, 287, 293, 294, 300, 301, 307, 308, 314, 315, 319, 320, 324, 325, 329, 330, 336, 337, 343, 344, 350, 351, 357, 358, 362, 363, 369, 370, 374, 375, 381, 382, 386, 387, 393, 394, 400, 401, 405, 406]
end
section
set_option maxHeartbeats 0
noncomputable def q0 : Program := view PySem.Challenge.pw_nz0482_01 [62]
noncomputable def loose0 : List Str := [Str.ofString "_wall", Str.ofString "keep_all", Str.ofString "CoveError", Str.ofString "Refusal", Str.ofString "NAN", Str.ofString "INF", Str.ofString "ZERO", Str.ofString "ONE", Str.ofString "gcd", Str.ofString "make", Str.ofString "from_int", Str.ofString "is_na", Str.ofString "is_nan", Str.ofString "is_finite", Str.ofString "sign", Str.ofString "marked", Str.ofString "neg", Str.ofString "mul", Str.ofString "div", Str.ofString "isqrt", Str.ofString "root", Str.ofString "floor", Str.ofString "ceiling", Str.ofString "trunc", Str.ofString "to_whole", Str.ofString "nearest_whole", Str.ofString "rounded", Str.ofString "round_half_even", Str.ofString "exponent", Str.ofString "signif", Str.ofString "compare", Str.ofString "Vector", Str.ofString "MOST_FACTORS", Str.ofString "check_math", Str.ofString "doubles", Str.ofString "abs_item", Str.ofString "sign_item", Str.ofString "exp_item", Str.ofString "log_item", Str.ofString "log_above", Str.ofString "log_to", Str.ofString "math_item", Str.ofString "math1", Str.ofString "round_to", Str.ofString "signif_to", Str.ofString "_law_row", Str.ofString "_law_next", Str.ofString "_law_reduced", Str.ofString "_law_kept", Str.ofString "_law_seen", Str.ofString "_law_item", Str.ofString "_law_vector", Str.ofString "_law_step", Str.ofString "_law_value", Str.ofString "_law_rounded", Str.ofString "_law_shortened"]
theorem frag_at : ∀ P, fragAt = (frag P).map (·.1) := fun _ => by kernel_rfl
noncomputable def dPos : Stmt → Pos
  | .FunctionDef (pos := p) .. => p
  | _ => default
noncomputable def lawD : DefRec := { name := Str.ofString "law", params := P406, body := B406, scope := S406, pos := dPos (topSt 62) }
abbrev hookSays (w : World) (h : Heap) : Prop := (kmHook frag fragAt frag_at [403]).says w h
noncomputable def ob11 (P : Params) : Obj := { cls := Value.type "tuple", data := Data.seq #[] }
noncomputable def ob12 (P : Params) : Obj := { cls := Value.none, data := Data.fields #[Value.int 1 0, Value.int 0 0, Value.ref 20, Value.int 5 0, Value.int 0 0, Value.ref 27, Value.int 10 0, Value.int 0 0, Value.ref 34, Value.int 12 0, Value.int 0 0, Value.ref 47, Value.int 21 0, Value.int 0 0, Value.ref 70, Value.int 25 0, Value.int 0 0, Value.ref 77, Value.int 35 0, Value.int 0 0, Value.ref 84, Value.int 39 0, Value.int 0 0, Value.ref 91, Value.int 41 0, Value.int 0 0, Value.ref 98, Value.int 43 0, Value.int 0 0, Value.ref 105, Value.int 45 0, Value.int 0 0, Value.ref 112, Value.int 51 0, Value.int 0 0, Value.ref 119, Value.int 55 0, Value.int 0 0, Value.ref 126, Value.int 59 0, Value.int 0 0, Value.ref 133, Value.int 63 0, Value.int 0 0, Value.ref 140, Value.int 71 0, Value.int 0 0, Value.ref 147, Value.int 82 0, Value.int 0 0, Value.ref 154, Value.int 92 0, Value.int 0 0, Value.ref 161, Value.int 96 0, Value.int 0 0, Value.ref 168, Value.int 98 0, Value.int 0 0, Value.ref 175, Value.int 102 0, Value.int 0 0, Value.ref 182, Value.int 107 0, Value.int 0 0, Value.ref 189, Value.int 113 0, Value.int 0 0, Value.ref 196, Value.int 119 0, Value.int 0 0, Value.ref 203, Value.int 123 0, Value.int 0 0, Value.ref 210, Value.int 134 0, Value.int 0 0, Value.ref 217, Value.int 138 0, Value.int 0 0, Value.ref 224, Value.int 157 0, Value.int 0 0, Value.ref 231, Value.int 170 0, Value.int 0 0, Value.ref 260, Value.int 173 0, Value.int 0 0, Value.ref 265, Value.int 177 0, Value.int 0 0, Value.ref 272, Value.int 181 0, Value.int 0 0, Value.ref 279, Value.int 185 0, Value.int 0 0, Value.ref 286, Value.int 193 0, Value.int 0 0, Value.ref 293, Value.int 203 0, Value.int 0 0, Value.ref 300, Value.int 212 0, Value.int 0 0, Value.ref 307, Value.int 224 0, Value.int 0 0, Value.ref 314, Value.int 244 0, Value.int 0 0, Value.ref 319, Value.int 258 0, Value.int 0 0, Value.ref 324, Value.int 263 0, Value.int 0 0, Value.ref 329, Value.int 269 0, Value.int 0 0, Value.ref 336, Value.int 282 0, Value.int 0 0, Value.ref 343, Value.int 284 0, Value.int 0 0, Value.ref 350, Value.int 290 0, Value.int 0 0, Value.ref 357, Value.int 295 0, Value.int 0 0, Value.ref 362, Value.int 299 0, Value.int 0 0, Value.ref 369, Value.int 311 0, Value.int 0 0, Value.ref 374, Value.int 328 0, Value.int 0 0, Value.ref 381, Value.int 338 0, Value.int 0 0, Value.ref 386, Value.int 359 0, Value.int 0 0, Value.ref 393, Value.int 369 0, Value.int 0 0, Value.ref 400, Value.int 380 0, Value.int 0 0, Value.ref 405] }
noncomputable def ob13 (P : Params) : Obj := { cls := Value.type "code", data := Data.fields #[Value.str (Str.ofString "<module>") 182, Value.str (Str.ofString "<module>") 183, Value.str (Str.ofString "/claim/cut.py") 184, Value.int 1 0, Value.int 0 0, Value.int 0 0, Value.int 0 0, Value.int 0 0, Value.ref 11, Value.bool false, Value.int 181 0, Value.ref 12, Value.none, Value.none, Value.none, Value.none, Value.int 185 0, Value.int 1 0, Value.str (Str.ofString "/claim/cut.py") 186] }
noncomputable def ob14 (P : Params) : Obj := { cls := Value.type "frame", slots := #[some (Value.ref 13), some (Value.ref 3), some (Value.ref 3), none, some (Value.str (Str.ofString "__main__") 164), none, some (Value.ref 0)] }
noncomputable def ob15 (P : Params) : Obj := { cls := Value.type "tuple", data := Data.seq #[] }
noncomputable def ob16 (P : Params) : Obj := { cls := Value.none, data := Data.fields #[] }
noncomputable def ob17 (P : Params) : Obj := { cls := Value.type "tuple", data := Data.seq #[Value.str (Str.ofString "k") 190] }
noncomputable def ob18 (P : Params) : Obj := { cls := Value.type "tuple", data := Data.seq #[] }
noncomputable def ob19 (P : Params) : Obj := { cls := Value.none, data := Data.func { name := Str.ofString "_wall", qualname := Str.ofString "_wall", params := P21, body := .stmts B21, scope := S21, globals := 0, closure := [], defaults := Value.none, kwdefaults := Value.none } }
noncomputable def ob22 (P : Params) : Obj := { cls := Value.type "tuple", data := Data.seq #[] }
noncomputable def ob23 (P : Params) : Obj := { cls := Value.none, data := Data.fields #[] }
noncomputable def ob24 (P : Params) : Obj := { cls := Value.type "tuple", data := Data.seq #[Value.str (Str.ofString "v") 199, Value.str (Str.ofString "result") 200] }
noncomputable def ob25 (P : Params) : Obj := { cls := Value.type "tuple", data := Data.seq #[] }
noncomputable def ob26 (P : Params) : Obj := { cls := Value.none, data := Data.func { name := Str.ofString "keep_all", qualname := Str.ofString "keep_all", params := P28, body := .stmts B28, scope := S28, globals := 0, closure := [], defaults := Value.none, kwdefaults := Value.none } }
noncomputable def ob30 (P : Params) : Obj := { cls := Value.type "builtin_function_or_method", data := Data.fields #[Value.builtin "type.__prepare__", Value.type "type"] }
noncomputable def ob31 (P : Params) : Obj := { cls := Value.type "dict", data := Data.dict #[{ hash := PyData.keyHash P (Str.ofString "__module__"), key := Value.str (Str.ofString "__module__") 213, val := Value.str (Str.ofString "vectorcove.errors") 204 }, { hash := PyData.keyHash P (Str.ofString "__qualname__"), key := Value.str (Str.ofString "__qualname__") 215, val := Value.str (Str.ofString "CoveError") 214 }, { hash := PyData.keyHash P (Str.ofString "__firstlineno__"), key := Value.str (Str.ofString "__firstlineno__") 217, val := Value.int 10 216 }, { hash := PyData.keyHash P (Str.ofString "__static_attributes__"), key := Value.str (Str.ofString "__static_attributes__") 218, val := Value.ref 36 }] 4 }
noncomputable def ob32 (P : Params) : Obj := { cls := Value.type "tuple", data := Data.seq #[] }
noncomputable def ob33 (P : Params) : Obj := { cls := Value.none, data := Data.fields #[] }
noncomputable def ob34 (P : Params) : Obj := { cls := Value.type "code", data := Data.fields #[Value.str (Str.ofString "CoveError") 208, Value.str (Str.ofString "CoveError") 209, Value.str (Str.ofString "/claim/cut.py") 210, Value.int 10 0, Value.int 0 0, Value.int 0 0, Value.int 0 0, Value.int 0 0, Value.ref 32, Value.bool false, Value.int 181 0, Value.ref 33, Value.none, Value.none, Value.none, Value.none, Value.int 211 0, Value.int 10 0, Value.str (Str.ofString "/claim/cut.py") 212] }
noncomputable def ob35 (P : Params) : Obj := { cls := Value.type "frame", slots := #[some (Value.ref 34), some (Value.ref 3), some (Value.ref 31), none, some (Value.str (Str.ofString "vectorcove.errors") 204), none, some (Value.ref 0)] }
noncomputable def ob36 (P : Params) : Obj := { cls := Value.type "tuple", data := Data.seq #[] }
noncomputable def ob40 (P : Params) : Obj := { cls := Value.type "super", data := Data.fields #[Value.ref 38, Value.ref 38, Value.ref 38] }
noncomputable def ob41 (P : Params) : Obj := { cls := Value.type "builtin_function_or_method", data := Data.fields #[Value.builtin "object.__init_subclass__", Value.ref 38] }
noncomputable def ob43 (P : Params) : Obj := { cls := Value.type "builtin_function_or_method", data := Data.fields #[Value.builtin "type.__prepare__", Value.type "type"] }
noncomputable def ob44 (P : Params) : Obj := { cls := Value.type "dict", data := Data.dict #[{ hash := PyData.keyHash P (Str.ofString "__module__"), key := Value.str (Str.ofString "__module__") 233, val := Value.str (Str.ofString "vectorcove.errors") 204 }, { hash := PyData.keyHash P (Str.ofString "__qualname__"), key := Value.str (Str.ofString "__qualname__") 235, val := Value.str (Str.ofString "Refusal") 234 }, { hash := PyData.keyHash P (Str.ofString "__firstlineno__"), key := Value.str (Str.ofString "__firstlineno__") 237, val := Value.int 12 236 }, { hash := PyData.keyHash P (Str.ofString "__init__"), key := Value.str (Str.ofString "__init__") 245, val := Value.ref 55 }, { hash := PyData.keyHash P (Str.ofString "__static_attributes__"), key := Value.str (Str.ofString "__static_attributes__") 247, val := Value.ref 56 }] 5 }
noncomputable def ob45 (P : Params) : Obj := { cls := Value.type "tuple", data := Data.seq #[] }
noncomputable def ob46 (P : Params) : Obj := { cls := Value.none, data := Data.fields #[Value.int 14 0, Value.int 4 0, Value.ref 54] }
noncomputable def ob47 (P : Params) : Obj := { cls := Value.type "code", data := Data.fields #[Value.str (Str.ofString "Refusal") 228, Value.str (Str.ofString "Refusal") 229, Value.str (Str.ofString "/claim/cut.py") 230, Value.int 12 0, Value.int 0 0, Value.int 0 0, Value.int 0 0, Value.int 0 0, Value.ref 45, Value.bool false, Value.int 181 0, Value.ref 46, Value.none, Value.none, Value.none, Value.none, Value.int 231 0, Value.int 12 0, Value.str (Str.ofString "/claim/cut.py") 232] }
noncomputable def ob48 (P : Params) : Obj := { cls := Value.type "frame", slots := #[some (Value.ref 47), some (Value.ref 3), some (Value.ref 44), none, some (Value.str (Str.ofString "vectorcove.errors") 204), none, some (Value.ref 0)] }
noncomputable def ob49 (P : Params) : Obj := { cls := Value.type "tuple", data := Data.seq #[] }
noncomputable def ob50 (P : Params) : Obj := { cls := Value.none, data := Data.fields #[] }
noncomputable def ob51 (P : Params) : Obj := { cls := Value.type "tuple", data := Data.seq #[Value.str (Str.ofString "self") 241, Value.str (Str.ofString "message") 242] }
noncomputable def ob52 (P : Params) : Obj := { cls := Value.type "tuple", data := Data.seq #[] }
noncomputable def ob53 (P : Params) : Obj := { cls := Value.none, data := Data.func { name := Str.ofString "__init__", qualname := Str.ofString "Refusal.__init__", params := P55, body := .stmts B55, scope := S55, globals := 0, closure := [], defaults := Value.none, kwdefaults := Value.none } }
noncomputable def ob56 (P : Params) : Obj := { cls := Value.type "tuple", data := Data.seq #[Value.str (Str.ofString "message") 246] }
noncomputable def ob59 (P : Params) : Obj := { cls := Value.type "super", data := Data.fields #[Value.ref 58, Value.ref 58, Value.ref 58] }
noncomputable def ob60 (P : Params) : Obj := { cls := Value.type "builtin_function_or_method", data := Data.fields #[Value.builtin "object.__init_subclass__", Value.ref 58] }
noncomputable def ob65 (P : Params) : Obj := { cls := Value.type "tuple", data := Data.seq #[] }
noncomputable def ob66 (P : Params) : Obj := { cls := Value.none, data := Data.fields #[] }
noncomputable def ob67 (P : Params) : Obj := { cls := Value.type "tuple", data := Data.seq #[Value.str (Str.ofString "a") 268, Value.str (Str.ofString "b") 269] }
noncomputable def ob68 (P : Params) : Obj := { cls := Value.type "tuple", data := Data.seq #[] }
noncomputable def ob69 (P : Params) : Obj := { cls := Value.none, data := Data.func { name := Str.ofString "gcd", qualname := Str.ofString "gcd", params := P71, body := .stmts B71, scope := S71, globals := 0, closure := [], defaults := Value.none, kwdefaults := Value.none } }
noncomputable def ob72 (P : Params) : Obj := { cls := Value.type "tuple", data := Data.seq #[] }
noncomputable def ob73 (P : Params) : Obj := { cls := Value.none, data := Data.fields #[] }
noncomputable def ob74 (P : Params) : Obj := { cls := Value.type "tuple", data := Data.seq #[Value.str (Str.ofString "n") 276, Value.str (Str.ofString "d") 277, Value.str (Str.ofString "common") 278] }
noncomputable def ob75 (P : Params) : Obj := { cls := Value.type "tuple", data := Data.seq #[] }
noncomputable def ob76 (P : Params) : Obj := { cls := Value.none, data := Data.func { name := Str.ofString "make", qualname := Str.ofString "make", params := P78, body := .stmts B78, scope := S78, globals := 0, closure := [], defaults := Value.none, kwdefaults := Value.none } }
noncomputable def ob79 (P : Params) : Obj := { cls := Value.type "tuple", data := Data.seq #[] }
noncomputable def ob80 (P : Params) : Obj := { cls := Value.none, data := Data.fields #[] }
noncomputable def ob81 (P : Params) : Obj := { cls := Value.type "tuple", data := Data.seq #[Value.str (Str.ofString "n") 285] }
noncomputable def ob82 (P : Params) : Obj := { cls := Value.type "tuple", data := Data.seq #[] }
noncomputable def ob83 (P : Params) : Obj := { cls := Value.none, data := Data.func { name := Str.ofString "from_int", qualname := Str.ofString "from_int", params := P85, body := .stmts B85, scope := S85, globals := 0, closure := [], defaults := Value.none, kwdefaults := Value.none } }
noncomputable def ob86 (P : Params) : Obj := { cls := Value.type "tuple", data := Data.seq #[] }
noncomputable def ob87 (P : Params) : Obj := { cls := Value.none, data := Data.fields #[] }
noncomputable def ob88 (P : Params) : Obj := { cls := Value.type "tuple", data := Data.seq #[Value.str (Str.ofString "x") 292] }
noncomputable def ob89 (P : Params) : Obj := { cls := Value.type "tuple", data := Data.seq #[] }
noncomputable def ob90 (P : Params) : Obj := { cls := Value.none, data := Data.func { name := Str.ofString "is_na", qualname := Str.ofString "is_na", params := P92, body := .stmts B92, scope := S92, globals := 0, closure := [], defaults := Value.none, kwdefaults := Value.none } }
noncomputable def ob93 (P : Params) : Obj := { cls := Value.type "tuple", data := Data.seq #[] }
noncomputable def ob94 (P : Params) : Obj := { cls := Value.none, data := Data.fields #[] }
noncomputable def ob95 (P : Params) : Obj := { cls := Value.type "tuple", data := Data.seq #[Value.str (Str.ofString "x") 299] }
noncomputable def ob96 (P : Params) : Obj := { cls := Value.type "tuple", data := Data.seq #[] }
noncomputable def ob97 (P : Params) : Obj := { cls := Value.none, data := Data.func { name := Str.ofString "is_nan", qualname := Str.ofString "is_nan", params := P99, body := .stmts B99, scope := S99, globals := 0, closure := [], defaults := Value.none, kwdefaults := Value.none } }
noncomputable def ob100 (P : Params) : Obj := { cls := Value.type "tuple", data := Data.seq #[] }
noncomputable def ob101 (P : Params) : Obj := { cls := Value.none, data := Data.fields #[] }
noncomputable def ob102 (P : Params) : Obj := { cls := Value.type "tuple", data := Data.seq #[Value.str (Str.ofString "x") 306] }
noncomputable def ob103 (P : Params) : Obj := { cls := Value.type "tuple", data := Data.seq #[] }
noncomputable def ob104 (P : Params) : Obj := { cls := Value.none, data := Data.func { name := Str.ofString "is_finite", qualname := Str.ofString "is_finite", params := P106, body := .stmts B106, scope := S106, globals := 0, closure := [], defaults := Value.none, kwdefaults := Value.none } }
noncomputable def ob107 (P : Params) : Obj := { cls := Value.type "tuple", data := Data.seq #[] }
noncomputable def ob108 (P : Params) : Obj := { cls := Value.none, data := Data.fields #[] }
noncomputable def ob109 (P : Params) : Obj := { cls := Value.type "tuple", data := Data.seq #[Value.str (Str.ofString "x") 313] }
noncomputable def ob110 (P : Params) : Obj := { cls := Value.type "tuple", data := Data.seq #[] }
noncomputable def ob111 (P : Params) : Obj := { cls := Value.none, data := Data.func { name := Str.ofString "sign", qualname := Str.ofString "sign", params := P113, body := .stmts B113, scope := S113, globals := 0, closure := [], defaults := Value.none, kwdefaults := Value.none } }
noncomputable def ob114 (P : Params) : Obj := { cls := Value.type "tuple", data := Data.seq #[] }
noncomputable def ob115 (P : Params) : Obj := { cls := Value.none, data := Data.fields #[] }
noncomputable def ob116 (P : Params) : Obj := { cls := Value.type "tuple", data := Data.seq #[Value.str (Str.ofString "x") 320, Value.str (Str.ofString "y") 321] }
noncomputable def ob117 (P : Params) : Obj := { cls := Value.type "tuple", data := Data.seq #[] }
noncomputable def ob118 (P : Params) : Obj := { cls := Value.none, data := Data.func { name := Str.ofString "marked", qualname := Str.ofString "marked", params := P120, body := .stmts B120, scope := S120, globals := 0, closure := [], defaults := Value.none, kwdefaults := Value.none } }
noncomputable def ob121 (P : Params) : Obj := { cls := Value.type "tuple", data := Data.seq #[] }
noncomputable def ob122 (P : Params) : Obj := { cls := Value.none, data := Data.fields #[] }
noncomputable def ob123 (P : Params) : Obj := { cls := Value.type "tuple", data := Data.seq #[Value.str (Str.ofString "x") 328] }
noncomputable def ob124 (P : Params) : Obj := { cls := Value.type "tuple", data := Data.seq #[] }
noncomputable def ob125 (P : Params) : Obj := { cls := Value.none, data := Data.func { name := Str.ofString "neg", qualname := Str.ofString "neg", params := P127, body := .stmts B127, scope := S127, globals := 0, closure := [], defaults := Value.none, kwdefaults := Value.none } }
noncomputable def ob128 (P : Params) : Obj := { cls := Value.type "tuple", data := Data.seq #[] }
noncomputable def ob129 (P : Params) : Obj := { cls := Value.none, data := Data.fields #[] }
noncomputable def ob130 (P : Params) : Obj := { cls := Value.type "tuple", data := Data.seq #[Value.str (Str.ofString "x") 335, Value.str (Str.ofString "y") 336] }
noncomputable def ob131 (P : Params) : Obj := { cls := Value.type "tuple", data := Data.seq #[] }
noncomputable def ob132 (P : Params) : Obj := { cls := Value.none, data := Data.func { name := Str.ofString "mul", qualname := Str.ofString "mul", params := P134, body := .stmts B134, scope := S134, globals := 0, closure := [], defaults := Value.none, kwdefaults := Value.none } }
noncomputable def ob135 (P : Params) : Obj := { cls := Value.type "tuple", data := Data.seq #[] }
noncomputable def ob136 (P : Params) : Obj := { cls := Value.none, data := Data.fields #[] }
noncomputable def ob137 (P : Params) : Obj := { cls := Value.type "tuple", data := Data.seq #[Value.str (Str.ofString "x") 343, Value.str (Str.ofString "y") 344] }
noncomputable def ob138 (P : Params) : Obj := { cls := Value.type "tuple", data := Data.seq #[] }
noncomputable def ob139 (P : Params) : Obj := { cls := Value.none, data := Data.func { name := Str.ofString "div", qualname := Str.ofString "div", params := P141, body := .stmts B141, scope := S141, globals := 0, closure := [], defaults := Value.none, kwdefaults := Value.none } }
noncomputable def ob142 (P : Params) : Obj := { cls := Value.type "tuple", data := Data.seq #[] }
noncomputable def ob143 (P : Params) : Obj := { cls := Value.none, data := Data.fields #[] }
noncomputable def ob144 (P : Params) : Obj := { cls := Value.type "tuple", data := Data.seq #[Value.str (Str.ofString "n") 351, Value.str (Str.ofString "guess") 352, Value.str (Str.ofString "better") 353] }
noncomputable def ob145 (P : Params) : Obj := { cls := Value.type "tuple", data := Data.seq #[] }
noncomputable def ob146 (P : Params) : Obj := { cls := Value.none, data := Data.func { name := Str.ofString "isqrt", qualname := Str.ofString "isqrt", params := P148, body := .stmts B148, scope := S148, globals := 0, closure := [], defaults := Value.none, kwdefaults := Value.none } }
noncomputable def ob149 (P : Params) : Obj := { cls := Value.type "tuple", data := Data.seq #[] }
noncomputable def ob150 (P : Params) : Obj := { cls := Value.none, data := Data.fields #[] }
noncomputable def ob151 (P : Params) : Obj := { cls := Value.type "tuple", data := Data.seq #[Value.str (Str.ofString "x") 360, Value.str (Str.ofString "n") 361, Value.str (Str.ofString "d") 362] }
noncomputable def ob152 (P : Params) : Obj := { cls := Value.type "tuple", data := Data.seq #[] }
noncomputable def ob153 (P : Params) : Obj := { cls := Value.none, data := Data.func { name := Str.ofString "root", qualname := Str.ofString "root", params := P155, body := .stmts B155, scope := S155, globals := 0, closure := [], defaults := Value.none, kwdefaults := Value.none } }
noncomputable def ob156 (P : Params) : Obj := { cls := Value.type "tuple", data := Data.seq #[] }
noncomputable def ob157 (P : Params) : Obj := { cls := Value.none, data := Data.fields #[] }
noncomputable def ob158 (P : Params) : Obj := { cls := Value.type "tuple", data := Data.seq #[Value.str (Str.ofString "x") 369] }
noncomputable def ob159 (P : Params) : Obj := { cls := Value.type "tuple", data := Data.seq #[] }
noncomputable def ob160 (P : Params) : Obj := { cls := Value.none, data := Data.func { name := Str.ofString "floor", qualname := Str.ofString "floor", params := P162, body := .stmts B162, scope := S162, globals := 0, closure := [], defaults := Value.none, kwdefaults := Value.none } }
noncomputable def ob163 (P : Params) : Obj := { cls := Value.type "tuple", data := Data.seq #[] }
noncomputable def ob164 (P : Params) : Obj := { cls := Value.none, data := Data.fields #[] }
noncomputable def ob165 (P : Params) : Obj := { cls := Value.type "tuple", data := Data.seq #[Value.str (Str.ofString "x") 376] }
noncomputable def ob166 (P : Params) : Obj := { cls := Value.type "tuple", data := Data.seq #[] }
noncomputable def ob167 (P : Params) : Obj := { cls := Value.none, data := Data.func { name := Str.ofString "ceiling", qualname := Str.ofString "ceiling", params := P169, body := .stmts B169, scope := S169, globals := 0, closure := [], defaults := Value.none, kwdefaults := Value.none } }
noncomputable def ob170 (P : Params) : Obj := { cls := Value.type "tuple", data := Data.seq #[] }
noncomputable def ob171 (P : Params) : Obj := { cls := Value.none, data := Data.fields #[] }
noncomputable def ob172 (P : Params) : Obj := { cls := Value.type "tuple", data := Data.seq #[Value.str (Str.ofString "x") 383] }
noncomputable def ob173 (P : Params) : Obj := { cls := Value.type "tuple", data := Data.seq #[] }
noncomputable def ob174 (P : Params) : Obj := { cls := Value.none, data := Data.func { name := Str.ofString "trunc", qualname := Str.ofString "trunc", params := P176, body := .stmts B176, scope := S176, globals := 0, closure := [], defaults := Value.none, kwdefaults := Value.none } }
noncomputable def ob177 (P : Params) : Obj := { cls := Value.type "tuple", data := Data.seq #[] }
noncomputable def ob178 (P : Params) : Obj := { cls := Value.none, data := Data.fields #[] }
noncomputable def ob179 (P : Params) : Obj := { cls := Value.type "tuple", data := Data.seq #[Value.str (Str.ofString "x") 390, Value.str (Str.ofString "found") 391] }
noncomputable def ob180 (P : Params) : Obj := { cls := Value.type "tuple", data := Data.seq #[] }
noncomputable def ob181 (P : Params) : Obj := { cls := Value.none, data := Data.func { name := Str.ofString "to_whole", qualname := Str.ofString "to_whole", params := P183, body := .stmts B183, scope := S183, globals := 0, closure := [], defaults := Value.none, kwdefaults := Value.none } }
noncomputable def ob184 (P : Params) : Obj := { cls := Value.type "tuple", data := Data.seq #[] }
noncomputable def ob185 (P : Params) : Obj := { cls := Value.none, data := Data.fields #[] }
noncomputable def ob186 (P : Params) : Obj := { cls := Value.type "tuple", data := Data.seq #[Value.str (Str.ofString "n") 398, Value.str (Str.ofString "d") 399, Value.str (Str.ofString "low") 400, Value.str (Str.ofString "rest") 401] }
noncomputable def ob187 (P : Params) : Obj := { cls := Value.type "tuple", data := Data.seq #[] }
noncomputable def ob188 (P : Params) : Obj := { cls := Value.none, data := Data.func { name := Str.ofString "nearest_whole", qualname := Str.ofString "nearest_whole", params := P190, body := .stmts B190, scope := S190, globals := 0, closure := [], defaults := Value.none, kwdefaults := Value.none } }
noncomputable def ob191 (P : Params) : Obj := { cls := Value.type "tuple", data := Data.seq #[] }
noncomputable def ob192 (P : Params) : Obj := { cls := Value.none, data := Data.fields #[] }
noncomputable def ob193 (P : Params) : Obj := { cls := Value.type "tuple", data := Data.seq #[Value.str (Str.ofString "x") 408, Value.str (Str.ofString "places") 409, Value.str (Str.ofString "scale") 410] }
noncomputable def ob194 (P : Params) : Obj := { cls := Value.type "tuple", data := Data.seq #[] }
noncomputable def ob195 (P : Params) : Obj := { cls := Value.none, data := Data.func { name := Str.ofString "rounded", qualname := Str.ofString "rounded", params := P197, body := .stmts B197, scope := S197, globals := 0, closure := [], defaults := Value.none, kwdefaults := Value.none } }
noncomputable def ob198 (P : Params) : Obj := { cls := Value.type "tuple", data := Data.seq #[] }
noncomputable def ob199 (P : Params) : Obj := { cls := Value.none, data := Data.fields #[] }
noncomputable def ob200 (P : Params) : Obj := { cls := Value.type "tuple", data := Data.seq #[Value.str (Str.ofString "x") 417, Value.str (Str.ofString "places") 418] }
noncomputable def ob201 (P : Params) : Obj := { cls := Value.type "tuple", data := Data.seq #[] }
noncomputable def ob202 (P : Params) : Obj := { cls := Value.none, data := Data.func { name := Str.ofString "round_half_even", qualname := Str.ofString "round_half_even", params := P204, body := .stmts B204, scope := S204, globals := 0, closure := [], defaults := Value.none, kwdefaults := Value.none } }
noncomputable def ob205 (P : Params) : Obj := { cls := Value.type "tuple", data := Data.seq #[] }
noncomputable def ob206 (P : Params) : Obj := { cls := Value.none, data := Data.fields #[] }
noncomputable def ob207 (P : Params) : Obj := { cls := Value.type "tuple", data := Data.seq #[Value.str (Str.ofString "x") 425, Value.str (Str.ofString "n") 426, Value.str (Str.ofString "d") 427, Value.str (Str.ofString "e") 428] }
noncomputable def ob208 (P : Params) : Obj := { cls := Value.type "tuple", data := Data.seq #[] }
noncomputable def ob209 (P : Params) : Obj := { cls := Value.none, data := Data.func { name := Str.ofString "exponent", qualname := Str.ofString "exponent", params := P211, body := .stmts B211, scope := S211, globals := 0, closure := [], defaults := Value.none, kwdefaults := Value.none } }
noncomputable def ob212 (P : Params) : Obj := { cls := Value.type "tuple", data := Data.seq #[] }
noncomputable def ob213 (P : Params) : Obj := { cls := Value.none, data := Data.fields #[] }
noncomputable def ob214 (P : Params) : Obj := { cls := Value.type "tuple", data := Data.seq #[Value.str (Str.ofString "x") 435, Value.str (Str.ofString "digits") 436] }
noncomputable def ob215 (P : Params) : Obj := { cls := Value.type "tuple", data := Data.seq #[] }
noncomputable def ob216 (P : Params) : Obj := { cls := Value.none, data := Data.func { name := Str.ofString "signif", qualname := Str.ofString "signif", params := P218, body := .stmts B218, scope := S218, globals := 0, closure := [], defaults := Value.none, kwdefaults := Value.none } }
noncomputable def ob219 (P : Params) : Obj := { cls := Value.type "tuple", data := Data.seq #[] }
noncomputable def ob220 (P : Params) : Obj := { cls := Value.none, data := Data.fields #[] }
noncomputable def ob221 (P : Params) : Obj := { cls := Value.type "tuple", data := Data.seq #[Value.str (Str.ofString "x") 443, Value.str (Str.ofString "y") 444, Value.str (Str.ofString "left") 445, Value.str (Str.ofString "right") 446] }
noncomputable def ob222 (P : Params) : Obj := { cls := Value.type "tuple", data := Data.seq #[] }
noncomputable def ob223 (P : Params) : Obj := { cls := Value.none, data := Data.func { name := Str.ofString "compare", qualname := Str.ofString "compare", params := P225, body := .stmts B225, scope := S225, globals := 0, closure := [], defaults := Value.none, kwdefaults := Value.none } }
noncomputable def ob226 (P : Params) : Obj := { cls := Value.type "tuple", data := Data.seq #[] }
noncomputable def ob227 (P : Params) : Obj := { cls := Value.type "builtin_function_or_method", data := Data.fields #[Value.builtin "type.__prepare__", Value.type "type"] }
noncomputable def ob228 (P : Params) : Obj := { cls := Value.type "dict", data := Data.dict #[{ hash := PyData.keyHash P (Str.ofString "__module__"), key := Value.str (Str.ofString "__module__") 459, val := Value.str (Str.ofString "vectorcove.values") 450 }, { hash := PyData.keyHash P (Str.ofString "__qualname__"), key := Value.str (Str.ofString "__qualname__") 461, val := Value.str (Str.ofString "Vector") 460 }, { hash := PyData.keyHash P (Str.ofString "__firstlineno__"), key := Value.str (Str.ofString "__firstlineno__") 463, val := Value.int 157 462 }, { hash := PyData.keyHash P (Str.ofString "__init__"), key := Value.str (Str.ofString "__init__") 473, val := Value.ref 240 }, { hash := PyData.keyHash P (Str.ofString "copy"), key := Value.str (Str.ofString "copy") 480, val := Value.ref 247 }, { hash := PyData.keyHash P (Str.ofString "__static_attributes__"), key := Value.str (Str.ofString "__static_attributes__") 486, val := Value.ref 248 }] 6 }
noncomputable def ob229 (P : Params) : Obj := { cls := Value.type "tuple", data := Data.seq #[] }
noncomputable def ob230 (P : Params) : Obj := { cls := Value.none, data := Data.fields #[Value.int 159 0, Value.int 4 0, Value.ref 239, Value.int 166 0, Value.int 4 0, Value.ref 246] }
noncomputable def ob231 (P : Params) : Obj := { cls := Value.type "code", data := Data.fields #[Value.str (Str.ofString "Vector") 454, Value.str (Str.ofString "Vector") 455, Value.str (Str.ofString "/claim/cut.py") 456, Value.int 157 0, Value.int 0 0, Value.int 0 0, Value.int 0 0, Value.int 0 0, Value.ref 229, Value.bool false, Value.int 181 0, Value.ref 230, Value.none, Value.none, Value.none, Value.none, Value.int 457 0, Value.int 157 0, Value.str (Str.ofString "/claim/cut.py") 458] }
noncomputable def ob232 (P : Params) : Obj := { cls := Value.type "frame", slots := #[some (Value.ref 231), some (Value.ref 3), some (Value.ref 228), none, some (Value.str (Str.ofString "vectorcove.values") 450), none, some (Value.ref 0)] }
noncomputable def ob234 (P : Params) : Obj := { cls := Value.type "tuple", data := Data.seq #[] }
noncomputable def ob235 (P : Params) : Obj := { cls := Value.none, data := Data.fields #[] }
noncomputable def ob236 (P : Params) : Obj := { cls := Value.type "tuple", data := Data.seq #[Value.str (Str.ofString "self") 467, Value.str (Str.ofString "kind") 468, Value.str (Str.ofString "items") 469, Value.str (Str.ofString "attrs") 470] }
noncomputable def ob237 (P : Params) : Obj := { cls := Value.type "tuple", data := Data.seq #[] }
noncomputable def ob238 (P : Params) : Obj := { cls := Value.none, data := Data.func { name := Str.ofString "__init__", qualname := Str.ofString "Vector.__init__", params := P240, body := .stmts B240, scope := S240, globals := 0, closure := [], defaults := Value.none, kwdefaults := Value.none } }
noncomputable def ob241 (P : Params) : Obj := { cls := Value.type "tuple", data := Data.seq #[] }
noncomputable def ob242 (P : Params) : Obj := { cls := Value.none, data := Data.fields #[] }
noncomputable def ob243 (P : Params) : Obj := { cls := Value.type "tuple", data := Data.seq #[Value.str (Str.ofString "self") 477] }
noncomputable def ob244 (P : Params) : Obj := { cls := Value.type "tuple", data := Data.seq #[] }
noncomputable def ob245 (P : Params) : Obj := { cls := Value.none, data := Data.func { name := Str.ofString "copy", qualname := Str.ofString "Vector.copy", params := P247, body := .stmts B247, scope := S247, globals := 0, closure := [], defaults := Value.none, kwdefaults := Value.none } }
noncomputable def ob248 (P : Params) : Obj := { cls := Value.type "tuple", data := Data.seq #[Value.str (Str.ofString "attrs") 481, Value.str (Str.ofString "items") 482, Value.str (Str.ofString "kind") 483, Value.str (Str.ofString "loose") 484, Value.str (Str.ofString "shared") 485] }
noncomputable def ob253 (P : Params) : Obj := { cls := Value.type "super", data := Data.fields #[Value.ref 250, Value.ref 250, Value.ref 250] }
noncomputable def ob254 (P : Params) : Obj := { cls := Value.type "builtin_function_or_method", data := Data.fields #[Value.builtin "object.__init_subclass__", Value.ref 250] }
noncomputable def ob255 (P : Params) : Obj := { cls := Value.type "tuple", data := Data.seq #[] }
noncomputable def ob256 (P : Params) : Obj := { cls := Value.none, data := Data.fields #[] }
noncomputable def ob257 (P : Params) : Obj := { cls := Value.type "tuple", data := Data.seq #[Value.str (Str.ofString "v") 501] }
noncomputable def ob258 (P : Params) : Obj := { cls := Value.type "tuple", data := Data.seq #[] }
noncomputable def ob259 (P : Params) : Obj := { cls := Value.none, data := Data.func { name := Str.ofString "check_math", qualname := Str.ofString "check_math", params := P261, body := .stmts B261, scope := S261, globals := 0, closure := [], defaults := Value.none, kwdefaults := Value.none } }
noncomputable def ob262 (P : Params) : Obj := { cls := Value.type "tuple", data := Data.seq #[] }
noncomputable def ob263 (P : Params) : Obj := { cls := Value.none, data := Data.fields #[] }
noncomputable def ob264 (P : Params) : Obj := { cls := Value.none, data := Data.func { name := Str.ofString "doubles", qualname := Str.ofString "doubles", params := P266, body := .stmts B266, scope := S266, globals := 0, closure := [], defaults := Value.none, kwdefaults := Value.none } }
noncomputable def ob267 (P : Params) : Obj := { cls := Value.type "tuple", data := Data.seq #[] }
noncomputable def ob268 (P : Params) : Obj := { cls := Value.none, data := Data.fields #[] }
noncomputable def ob269 (P : Params) : Obj := { cls := Value.type "tuple", data := Data.seq #[Value.str (Str.ofString "x") 514] }
noncomputable def ob270 (P : Params) : Obj := { cls := Value.type "tuple", data := Data.seq #[] }
noncomputable def ob271 (P : Params) : Obj := { cls := Value.none, data := Data.func { name := Str.ofString "abs_item", qualname := Str.ofString "abs_item", params := P273, body := .stmts B273, scope := S273, globals := 0, closure := [], defaults := Value.none, kwdefaults := Value.none } }
noncomputable def ob274 (P : Params) : Obj := { cls := Value.type "tuple", data := Data.seq #[] }
noncomputable def ob275 (P : Params) : Obj := { cls := Value.none, data := Data.fields #[] }
noncomputable def ob276 (P : Params) : Obj := { cls := Value.type "tuple", data := Data.seq #[Value.str (Str.ofString "x") 521] }
noncomputable def ob277 (P : Params) : Obj := { cls := Value.type "tuple", data := Data.seq #[] }
noncomputable def ob278 (P : Params) : Obj := { cls := Value.none, data := Data.func { name := Str.ofString "sign_item", qualname := Str.ofString "sign_item", params := P280, body := .stmts B280, scope := S280, globals := 0, closure := [], defaults := Value.none, kwdefaults := Value.none } }
noncomputable def ob281 (P : Params) : Obj := { cls := Value.type "tuple", data := Data.seq #[] }
noncomputable def ob282 (P : Params) : Obj := { cls := Value.none, data := Data.fields #[] }
noncomputable def ob283 (P : Params) : Obj := { cls := Value.type "tuple", data := Data.seq #[Value.str (Str.ofString "x") 528] }
noncomputable def ob284 (P : Params) : Obj := { cls := Value.type "tuple", data := Data.seq #[] }
noncomputable def ob285 (P : Params) : Obj := { cls := Value.none, data := Data.func { name := Str.ofString "exp_item", qualname := Str.ofString "exp_item", params := P287, body := .stmts B287, scope := S287, globals := 0, closure := [], defaults := Value.none, kwdefaults := Value.none } }
noncomputable def ob288 (P : Params) : Obj := { cls := Value.type "tuple", data := Data.seq #[] }
noncomputable def ob289 (P : Params) : Obj := { cls := Value.none, data := Data.fields #[] }
noncomputable def ob290 (P : Params) : Obj := { cls := Value.type "tuple", data := Data.seq #[Value.str (Str.ofString "x") 535] }
noncomputable def ob291 (P : Params) : Obj := { cls := Value.type "tuple", data := Data.seq #[] }
noncomputable def ob292 (P : Params) : Obj := { cls := Value.none, data := Data.func { name := Str.ofString "log_item", qualname := Str.ofString "log_item", params := P294, body := .stmts B294, scope := S294, globals := 0, closure := [], defaults := Value.none, kwdefaults := Value.none } }
noncomputable def ob295 (P : Params) : Obj := { cls := Value.type "tuple", data := Data.seq #[] }
noncomputable def ob296 (P : Params) : Obj := { cls := Value.none, data := Data.fields #[] }
noncomputable def ob297 (P : Params) : Obj := { cls := Value.type "tuple", data := Data.seq #[Value.str (Str.ofString "x") 542, Value.str (Str.ofString "base") 543, Value.str (Str.ofString "power") 544, Value.str (Str.ofString "count") 545] }
noncomputable def ob298 (P : Params) : Obj := { cls := Value.type "tuple", data := Data.seq #[] }
noncomputable def ob299 (P : Params) : Obj := { cls := Value.none, data := Data.func { name := Str.ofString "log_above", qualname := Str.ofString "log_above", params := P301, body := .stmts B301, scope := S301, globals := 0, closure := [], defaults := Value.none, kwdefaults := Value.none } }
noncomputable def ob302 (P : Params) : Obj := { cls := Value.type "tuple", data := Data.seq #[] }
noncomputable def ob303 (P : Params) : Obj := { cls := Value.none, data := Data.fields #[] }
noncomputable def ob304 (P : Params) : Obj := { cls := Value.type "tuple", data := Data.seq #[Value.str (Str.ofString "x") 552, Value.str (Str.ofString "base") 553] }
noncomputable def ob305 (P : Params) : Obj := { cls := Value.type "tuple", data := Data.seq #[] }
noncomputable def ob306 (P : Params) : Obj := { cls := Value.none, data := Data.func { name := Str.ofString "log_to", qualname := Str.ofString "log_to", params := P308, body := .stmts B308, scope := S308, globals := 0, closure := [], defaults := Value.none, kwdefaults := Value.none } }
noncomputable def ob309 (P : Params) : Obj := { cls := Value.type "tuple", data := Data.seq #[] }
noncomputable def ob310 (P : Params) : Obj := { cls := Value.none, data := Data.fields #[] }
noncomputable def ob311 (P : Params) : Obj := { cls := Value.type "tuple", data := Data.seq #[Value.str (Str.ofString "name") 560, Value.str (Str.ofString "x") 561] }
noncomputable def ob312 (P : Params) : Obj := { cls := Value.type "tuple", data := Data.seq #[] }
noncomputable def ob313 (P : Params) : Obj := { cls := Value.none, data := Data.func { name := Str.ofString "math_item", qualname := Str.ofString "math_item", params := P315, body := .stmts B315, scope := S315, globals := 0, closure := [], defaults := Value.none, kwdefaults := Value.none } }
noncomputable def ob316 (P : Params) : Obj := { cls := Value.type "tuple", data := Data.seq #[] }
noncomputable def ob317 (P : Params) : Obj := { cls := Value.none, data := Data.fields #[] }
noncomputable def ob318 (P : Params) : Obj := { cls := Value.none, data := Data.func { name := Str.ofString "math1", qualname := Str.ofString "math1", params := P320, body := .stmts B320, scope := S320, globals := 0, closure := [], defaults := Value.none, kwdefaults := Value.none } }
noncomputable def ob321 (P : Params) : Obj := { cls := Value.type "tuple", data := Data.seq #[] }
noncomputable def ob322 (P : Params) : Obj := { cls := Value.none, data := Data.fields #[] }
noncomputable def ob323 (P : Params) : Obj := { cls := Value.none, data := Data.func { name := Str.ofString "round_to", qualname := Str.ofString "round_to", params := P325, body := .stmts B325, scope := S325, globals := 0, closure := [], defaults := Value.none, kwdefaults := Value.none } }
noncomputable def ob326 (P : Params) : Obj := { cls := Value.type "tuple", data := Data.seq #[] }
noncomputable def ob327 (P : Params) : Obj := { cls := Value.none, data := Data.fields #[] }
noncomputable def ob328 (P : Params) : Obj := { cls := Value.none, data := Data.func { name := Str.ofString "signif_to", qualname := Str.ofString "signif_to", params := P330, body := .stmts B330, scope := S330, globals := 0, closure := [], defaults := Value.none, kwdefaults := Value.none } }
noncomputable def ob331 (P : Params) : Obj := { cls := Value.type "tuple", data := Data.seq #[] }
noncomputable def ob332 (P : Params) : Obj := { cls := Value.none, data := Data.fields #[] }
noncomputable def ob333 (P : Params) : Obj := { cls := Value.type "tuple", data := Data.seq #[Value.str (Str.ofString "script") 588, Value.str (Str.ofString "row") 589, Value.str (Str.ofString "cell") 590, Value.str (Str.ofString "figure") 591, Value.str (Str.ofString "lap") 592] }
noncomputable def ob334 (P : Params) : Obj := { cls := Value.type "tuple", data := Data.seq #[] }
noncomputable def ob335 (P : Params) : Obj := { cls := Value.none, data := Data.func { name := Str.ofString "_law_row", qualname := Str.ofString "_law_row", params := P337, body := .stmts B337, scope := S337, globals := 0, closure := [], defaults := Value.none, kwdefaults := Value.none } }
noncomputable def ob338 (P : Params) : Obj := { cls := Value.type "tuple", data := Data.seq #[] }
noncomputable def ob339 (P : Params) : Obj := { cls := Value.none, data := Data.fields #[] }
noncomputable def ob340 (P : Params) : Obj := { cls := Value.type "tuple", data := Data.seq #[Value.str (Str.ofString "row") 599] }
noncomputable def ob341 (P : Params) : Obj := { cls := Value.type "tuple", data := Data.seq #[] }
noncomputable def ob342 (P : Params) : Obj := { cls := Value.none, data := Data.func { name := Str.ofString "_law_next", qualname := Str.ofString "_law_next", params := P344, body := .stmts B344, scope := S344, globals := 0, closure := [], defaults := Value.none, kwdefaults := Value.none } }
noncomputable def ob345 (P : Params) : Obj := { cls := Value.type "tuple", data := Data.seq #[] }
noncomputable def ob346 (P : Params) : Obj := { cls := Value.none, data := Data.fields #[] }
noncomputable def ob347 (P : Params) : Obj := { cls := Value.type "tuple", data := Data.seq #[Value.str (Str.ofString "n") 606, Value.str (Str.ofString "d") 607, Value.str (Str.ofString "a") 608, Value.str (Str.ofString "b") 609] }
noncomputable def ob348 (P : Params) : Obj := { cls := Value.type "tuple", data := Data.seq #[] }
noncomputable def ob349 (P : Params) : Obj := { cls := Value.none, data := Data.func { name := Str.ofString "_law_reduced", qualname := Str.ofString "_law_reduced", params := P351, body := .stmts B351, scope := S351, globals := 0, closure := [], defaults := Value.none, kwdefaults := Value.none } }
noncomputable def ob352 (P : Params) : Obj := { cls := Value.type "tuple", data := Data.seq #[] }
noncomputable def ob353 (P : Params) : Obj := { cls := Value.none, data := Data.fields #[] }
noncomputable def ob354 (P : Params) : Obj := { cls := Value.type "tuple", data := Data.seq #[Value.str (Str.ofString "ask") 616, Value.str (Str.ofString "error") 617] }
noncomputable def ob355 (P : Params) : Obj := { cls := Value.type "tuple", data := Data.seq #[] }
noncomputable def ob356 (P : Params) : Obj := { cls := Value.none, data := Data.func { name := Str.ofString "_law_kept", qualname := Str.ofString "_law_kept", params := P358, body := .stmts B358, scope := S358, globals := 0, closure := [], defaults := Value.none, kwdefaults := Value.none } }
noncomputable def ob359 (P : Params) : Obj := { cls := Value.type "tuple", data := Data.seq #[] }
noncomputable def ob360 (P : Params) : Obj := { cls := Value.none, data := Data.fields #[] }
noncomputable def ob361 (P : Params) : Obj := { cls := Value.none, data := Data.func { name := Str.ofString "_law_seen", qualname := Str.ofString "_law_seen", params := P363, body := .stmts B363, scope := S363, globals := 0, closure := [], defaults := Value.none, kwdefaults := Value.none } }
noncomputable def ob364 (P : Params) : Obj := { cls := Value.type "tuple", data := Data.seq #[] }
noncomputable def ob365 (P : Params) : Obj := { cls := Value.none, data := Data.fields #[] }
noncomputable def ob366 (P : Params) : Obj := { cls := Value.type "tuple", data := Data.seq #[Value.str (Str.ofString "row") 630, Value.str (Str.ofString "kind") 631, Value.str (Str.ofString "a") 632, Value.str (Str.ofString "b") 633, Value.str (Str.ofString "n") 634] }
noncomputable def ob367 (P : Params) : Obj := { cls := Value.type "tuple", data := Data.seq #[] }
noncomputable def ob368 (P : Params) : Obj := { cls := Value.none, data := Data.func { name := Str.ofString "_law_item", qualname := Str.ofString "_law_item", params := P370, body := .stmts B370, scope := S370, globals := 0, closure := [], defaults := Value.none, kwdefaults := Value.none } }
noncomputable def ob371 (P : Params) : Obj := { cls := Value.type "tuple", data := Data.seq #[] }
noncomputable def ob372 (P : Params) : Obj := { cls := Value.none, data := Data.fields #[] }
noncomputable def ob373 (P : Params) : Obj := { cls := Value.none, data := Data.func { name := Str.ofString "_law_vector", qualname := Str.ofString "_law_vector", params := P375, body := .stmts B375, scope := S375, globals := 0, closure := [], defaults := Value.none, kwdefaults := Value.none } }
noncomputable def ob376 (P : Params) : Obj := { cls := Value.type "tuple", data := Data.seq #[] }
noncomputable def ob377 (P : Params) : Obj := { cls := Value.none, data := Data.fields #[] }
noncomputable def ob378 (P : Params) : Obj := { cls := Value.type "tuple", data := Data.seq #[Value.str (Str.ofString "name") 647, Value.str (Str.ofString "x") 648, Value.str (Str.ofString "low") 649, Value.str (Str.ofString "high") 650] }
noncomputable def ob379 (P : Params) : Obj := { cls := Value.type "tuple", data := Data.seq #[] }
noncomputable def ob380 (P : Params) : Obj := { cls := Value.none, data := Data.func { name := Str.ofString "_law_step", qualname := Str.ofString "_law_step", params := P382, body := .stmts B382, scope := S382, globals := 0, closure := [], defaults := Value.none, kwdefaults := Value.none } }
noncomputable def ob383 (P : Params) : Obj := { cls := Value.type "tuple", data := Data.seq #[] }
noncomputable def ob384 (P : Params) : Obj := { cls := Value.none, data := Data.fields #[] }
noncomputable def ob385 (P : Params) : Obj := { cls := Value.none, data := Data.func { name := Str.ofString "_law_value", qualname := Str.ofString "_law_value", params := P387, body := .stmts B387, scope := S387, globals := 0, closure := [], defaults := Value.none, kwdefaults := Value.none } }
noncomputable def ob388 (P : Params) : Obj := { cls := Value.type "tuple", data := Data.seq #[] }
noncomputable def ob389 (P : Params) : Obj := { cls := Value.none, data := Data.fields #[] }
noncomputable def ob390 (P : Params) : Obj := { cls := Value.type "tuple", data := Data.seq #[Value.str (Str.ofString "x") 663, Value.str (Str.ofString "places") 664, Value.str (Str.ofString "n") 665, Value.str (Str.ofString "d") 666, Value.str (Str.ofString "low") 667, Value.str (Str.ofString "rest") 668] }
noncomputable def ob391 (P : Params) : Obj := { cls := Value.type "tuple", data := Data.seq #[] }
noncomputable def ob392 (P : Params) : Obj := { cls := Value.none, data := Data.func { name := Str.ofString "_law_rounded", qualname := Str.ofString "_law_rounded", params := P394, body := .stmts B394, scope := S394, globals := 0, closure := [], defaults := Value.none, kwdefaults := Value.none } }
noncomputable def ob395 (P : Params) : Obj := { cls := Value.type "tuple", data := Data.seq #[] }
noncomputable def ob396 (P : Params) : Obj := { cls := Value.none, data := Data.fields #[] }
noncomputable def ob397 (P : Params) : Obj := { cls := Value.type "tuple", data := Data.seq #[Value.str (Str.ofString "x") 675, Value.str (Str.ofString "digits") 676, Value.str (Str.ofString "size") 677, Value.str (Str.ofString "place") 678] }
noncomputable def ob398 (P : Params) : Obj := { cls := Value.type "tuple", data := Data.seq #[] }
noncomputable def ob399 (P : Params) : Obj := { cls := Value.none, data := Data.func { name := Str.ofString "_law_shortened", qualname := Str.ofString "_law_shortened", params := P401, body := .stmts B401, scope := S401, globals := 0, closure := [], defaults := Value.none, kwdefaults := Value.none } }
noncomputable def ob402 (P : Params) : Obj := { cls := Value.type "tuple", data := Data.seq #[] }
noncomputable def ob403 (P : Params) : Obj := { cls := Value.none, data := Data.fields #[] }
noncomputable def ob404 (P : Params) : Obj := { cls := Value.none, data := Data.func { name := Str.ofString "law", qualname := Str.ofString "law", params := P406, body := .stmts B406, scope := S406, globals := 0, closure := [], defaults := Value.none, kwdefaults := Value.none } }
noncomputable def obb0at2 (P : Params) : Obj := { cls := Value.none, data := Data.dict #[] }
noncomputable def obb0at3 (P : Params) : Obj := { cls := Value.type "dict", data := Data.dict #[{ hash := PyData.keyHash P (Str.ofString "__name__"), key := Value.str (Str.ofString "__name__") 165, val := Value.str (Str.ofString "__main__") 164 }, { hash := PyData.keyHash P (Str.ofString "__doc__"), key := Value.str (Str.ofString "__doc__") 166, val := Value.none }, { hash := PyData.keyHash P (Str.ofString "__package__"), key := Value.str (Str.ofString "__package__") 167, val := Value.none }, { hash := PyData.keyHash P (Str.ofString "__loader__"), key := Value.str (Str.ofString "__loader__") 168, val := Value.builtin "__main__.__loader__#opaque" }, { hash := PyData.keyHash P (Str.ofString "__spec__"), key := Value.str (Str.ofString "__spec__") 169, val := Value.none }, { hash := PyData.keyHash P (Str.ofString "__annotations__"), key := Value.str (Str.ofString "__annotations__") 170, val := Value.ref 6 }, { hash := PyData.keyHash P (Str.ofString "__builtins__"), key := Value.str (Str.ofString "__builtins__") 171, val := Value.ref 4 }, { hash := PyData.keyHash P (Str.ofString "__file__"), key := Value.str (Str.ofString "__file__") 173, val := Value.str (Str.ofString "/claim/cut.py") 172 }, { hash := PyData.keyHash P (Str.ofString "__cached__"), key := Value.str (Str.ofString "__cached__") 174, val := Value.none }] 9 }
noncomputable def obb0at12 (P : Params) : Obj := { cls := Value.none, data := Data.fields #[] }
noncomputable def heapB (P : Params) : Heap := ⟨Array.mk [boot_o_0 P, boot_o_1 P, obb0at2 P, obb0at3 P, boot_o_4 P, boot_o_5 P, boot_o_6 P, boot_o_7 P, boot_o_8 P, boot_o_9 P, boot_o_10 P, ob11 P, obb0at12 P, ob13 P, ob14 P], {}⟩
noncomputable def obc4at3 (P : Params) : Obj := { cls := Value.type "dict", data := Data.dict #[{ hash := PyData.keyHash P (Str.ofString "__name__"), key := Value.str (Str.ofString "__name__") 165, val := Value.str (Str.ofString "vectorcove.errors") 204 }, { hash := PyData.keyHash P (Str.ofString "__doc__"), key := Value.str (Str.ofString "__doc__") 166, val := Value.none }, { hash := PyData.keyHash P (Str.ofString "__package__"), key := Value.str (Str.ofString "__package__") 167, val := Value.none }, { hash := PyData.keyHash P (Str.ofString "__loader__"), key := Value.str (Str.ofString "__loader__") 168, val := Value.builtin "__main__.__loader__#opaque" }, { hash := PyData.keyHash P (Str.ofString "__spec__"), key := Value.str (Str.ofString "__spec__") 169, val := Value.none }, { hash := PyData.keyHash P (Str.ofString "__annotations__"), key := Value.str (Str.ofString "__annotations__") 170, val := Value.ref 6 }, { hash := PyData.keyHash P (Str.ofString "__builtins__"), key := Value.str (Str.ofString "__builtins__") 171, val := Value.ref 4 }, { hash := PyData.keyHash P (Str.ofString "__file__"), key := Value.str (Str.ofString "__file__") 173, val := Value.str (Str.ofString "/claim/cut.py") 172 }, { hash := PyData.keyHash P (Str.ofString "__cached__"), key := Value.str (Str.ofString "__cached__") 174, val := Value.none }, { hash := PyData.keyHash P (Str.ofString "_wall"), key := Value.str (Str.ofString "_wall") 193, val := Value.ref 21 }, { hash := PyData.keyHash P (Str.ofString "keep_all"), key := Value.str (Str.ofString "keep_all") 203, val := Value.ref 28 }, { hash := PyData.keyHash P (Str.ofString "CoveError"), key := Value.str (Str.ofString "CoveError") 225, val := Value.ref 38 }] 12 }
noncomputable def obc4at12 (P : Params) : Obj := { cls := Value.none, data := Data.fields #[Value.int 1 0, Value.int 0 0, Value.ref 20, Value.int 5 0, Value.int 0 0, Value.ref 27, Value.int 10 0, Value.int 0 0, Value.ref 34] }
noncomputable def obc4at38 (P : Params) : Obj := { cls := Value.type "type", data := Data.cls { name := Str.ofString "CoveError", bases := [Value.type "Exception"], mro := [Value.ref 38, Value.type "Exception", Value.type "BaseException", Value.type "object"], ns := 37, qualname := Str.ofString "CoveError" }, slots := #[some (Value.ref 29), none, some (Value.str (Str.ofString "CoveError") 206), some (Value.str (Str.ofString "CoveError") 214), some (Value.builtin "Exception.__new__"), some (Value.bool true)] }
noncomputable def heap0 (P : Params) : Heap := ⟨Array.mk [boot_o_0 P, boot_o_1 P, k2 P, obc4at3 P, boot_o_4 P, boot_o_5 P, boot_o_6 P, boot_o_7 P, boot_o_8 P, boot_o_9 P, boot_o_10 P, ob11 P, obc4at12 P, ob13 P, ob14 P, ob15 P, ob16 P, ob17 P, ob18 P, ob19 P, k20 P, k21 P, ob22 P, ob23 P, ob24 P, ob25 P, ob26 P, k27 P, k28 P, k29 P, ob30 P, ob31 P, ob32 P, ob33 P, ob34 P, ob35 P, ob36 P, k37 P, obc4at38 P, k39 P, ob40 P, ob41 P], {}⟩
noncomputable def obc9at3 (P : Params) : Obj := { cls := Value.type "dict", data := Data.dict #[{ hash := PyData.keyHash P (Str.ofString "__name__"), key := Value.str (Str.ofString "__name__") 165, val := Value.str (Str.ofString "vectorcove.rational") 251 }, { hash := PyData.keyHash P (Str.ofString "__doc__"), key := Value.str (Str.ofString "__doc__") 166, val := Value.none }, { hash := PyData.keyHash P (Str.ofString "__package__"), key := Value.str (Str.ofString "__package__") 167, val := Value.none }, { hash := PyData.keyHash P (Str.ofString "__loader__"), key := Value.str (Str.ofString "__loader__") 168, val := Value.builtin "__main__.__loader__#opaque" }, { hash := PyData.keyHash P (Str.ofString "__spec__"), key := Value.str (Str.ofString "__spec__") 169, val := Value.none }, { hash := PyData.keyHash P (Str.ofString "__annotations__"), key := Value.str (Str.ofString "__annotations__") 170, val := Value.ref 6 }, { hash := PyData.keyHash P (Str.ofString "__builtins__"), key := Value.str (Str.ofString "__builtins__") 171, val := Value.ref 4 }, { hash := PyData.keyHash P (Str.ofString "__file__"), key := Value.str (Str.ofString "__file__") 173, val := Value.str (Str.ofString "/claim/cut.py") 172 }, { hash := PyData.keyHash P (Str.ofString "__cached__"), key := Value.str (Str.ofString "__cached__") 174, val := Value.none }, { hash := PyData.keyHash P (Str.ofString "_wall"), key := Value.str (Str.ofString "_wall") 193, val := Value.ref 21 }, { hash := PyData.keyHash P (Str.ofString "keep_all"), key := Value.str (Str.ofString "keep_all") 203, val := Value.ref 28 }, { hash := PyData.keyHash P (Str.ofString "CoveError"), key := Value.str (Str.ofString "CoveError") 225, val := Value.ref 38 }, { hash := PyData.keyHash P (Str.ofString "Refusal"), key := Value.str (Str.ofString "Refusal") 250, val := Value.ref 58 }, { hash := PyData.keyHash P (Str.ofString "NAN"), key := Value.str (Str.ofString "NAN") 255, val := Value.ref 61 }, { hash := PyData.keyHash P (Str.ofString "INF"), key := Value.str (Str.ofString "INF") 258, val := Value.ref 62 }, { hash := PyData.keyHash P (Str.ofString "ZERO"), key := Value.str (Str.ofString "ZERO") 261, val := Value.ref 63 }] 16 }
noncomputable def obc9at12 (P : Params) : Obj := { cls := Value.none, data := Data.fields #[Value.int 1 0, Value.int 0 0, Value.ref 20, Value.int 5 0, Value.int 0 0, Value.ref 27, Value.int 10 0, Value.int 0 0, Value.ref 34, Value.int 12 0, Value.int 0 0, Value.ref 47] }
noncomputable def heap1 (P : Params) : Heap := ⟨Array.mk [boot_o_0 P, boot_o_1 P, k2 P, obc9at3 P, boot_o_4 P, boot_o_5 P, boot_o_6 P, boot_o_7 P, boot_o_8 P, boot_o_9 P, boot_o_10 P, ob11 P, obc9at12 P, ob13 P, ob14 P, ob15 P, ob16 P, ob17 P, ob18 P, ob19 P, k20 P, k21 P, ob22 P, ob23 P, ob24 P, ob25 P, ob26 P, k27 P, k28 P, k29 P, ob30 P, ob31 P, ob32 P, ob33 P, ob34 P, ob35 P, ob36 P, k37 P, k38 P, k39 P, ob40 P, ob41 P, k42 P, ob43 P, ob44 P, ob45 P, ob46 P, ob47 P, ob48 P, ob49 P, ob50 P, ob51 P, ob52 P, ob53 P, k54 P, k55 P, ob56 P, k57 P, k58 P, ob59 P, ob60 P, k61 P, k62 P, k63 P], {}⟩
noncomputable def obc19at3 (P : Params) : Obj := { cls := Value.type "dict", data := Data.dict #[{ hash := PyData.keyHash P (Str.ofString "__name__"), key := Value.str (Str.ofString "__name__") 165, val := Value.str (Str.ofString "vectorcove.rational") 251 }, { hash := PyData.keyHash P (Str.ofString "__doc__"), key := Value.str (Str.ofString "__doc__") 166, val := Value.none }, { hash := PyData.keyHash P (Str.ofString "__package__"), key := Value.str (Str.ofString "__package__") 167, val := Value.none }, { hash := PyData.keyHash P (Str.ofString "__loader__"), key := Value.str (Str.ofString "__loader__") 168, val := Value.builtin "__main__.__loader__#opaque" }, { hash := PyData.keyHash P (Str.ofString "__spec__"), key := Value.str (Str.ofString "__spec__") 169, val := Value.none }, { hash := PyData.keyHash P (Str.ofString "__annotations__"), key := Value.str (Str.ofString "__annotations__") 170, val := Value.ref 6 }, { hash := PyData.keyHash P (Str.ofString "__builtins__"), key := Value.str (Str.ofString "__builtins__") 171, val := Value.ref 4 }, { hash := PyData.keyHash P (Str.ofString "__file__"), key := Value.str (Str.ofString "__file__") 173, val := Value.str (Str.ofString "/claim/cut.py") 172 }, { hash := PyData.keyHash P (Str.ofString "__cached__"), key := Value.str (Str.ofString "__cached__") 174, val := Value.none }, { hash := PyData.keyHash P (Str.ofString "_wall"), key := Value.str (Str.ofString "_wall") 193, val := Value.ref 21 }, { hash := PyData.keyHash P (Str.ofString "keep_all"), key := Value.str (Str.ofString "keep_all") 203, val := Value.ref 28 }, { hash := PyData.keyHash P (Str.ofString "CoveError"), key := Value.str (Str.ofString "CoveError") 225, val := Value.ref 38 }, { hash := PyData.keyHash P (Str.ofString "Refusal"), key := Value.str (Str.ofString "Refusal") 250, val := Value.ref 58 }, { hash := PyData.keyHash P (Str.ofString "NAN"), key := Value.str (Str.ofString "NAN") 255, val := Value.ref 61 }, { hash := PyData.keyHash P (Str.ofString "INF"), key := Value.str (Str.ofString "INF") 258, val := Value.ref 62 }, { hash := PyData.keyHash P (Str.ofString "ZERO"), key := Value.str (Str.ofString "ZERO") 261, val := Value.ref 63 }, { hash := PyData.keyHash P (Str.ofString "ONE"), key := Value.str (Str.ofString "ONE") 264, val := Value.ref 64 }, { hash := PyData.keyHash P (Str.ofString "gcd"), key := Value.str (Str.ofString "gcd") 272, val := Value.ref 71 }, { hash := PyData.keyHash P (Str.ofString "make"), key := Value.str (Str.ofString "make") 281, val := Value.ref 78 }, { hash := PyData.keyHash P (Str.ofString "from_int"), key := Value.str (Str.ofString "from_int") 288, val := Value.ref 85 }, { hash := PyData.keyHash P (Str.ofString "is_na"), key := Value.str (Str.ofString "is_na") 295, val := Value.ref 92 }, { hash := PyData.keyHash P (Str.ofString "is_nan"), key := Value.str (Str.ofString "is_nan") 302, val := Value.ref 99 }, { hash := PyData.keyHash P (Str.ofString "is_finite"), key := Value.str (Str.ofString "is_finite") 309, val := Value.ref 106 }, { hash := PyData.keyHash P (Str.ofString "sign"), key := Value.str (Str.ofString "sign") 316, val := Value.ref 113 }, { hash := PyData.keyHash P (Str.ofString "marked"), key := Value.str (Str.ofString "marked") 324, val := Value.ref 120 }, { hash := PyData.keyHash P (Str.ofString "neg"), key := Value.str (Str.ofString "neg") 331, val := Value.ref 127 }] 26 }
noncomputable def obc19at12 (P : Params) : Obj := { cls := Value.none, data := Data.fields #[Value.int 1 0, Value.int 0 0, Value.ref 20, Value.int 5 0, Value.int 0 0, Value.ref 27, Value.int 10 0, Value.int 0 0, Value.ref 34, Value.int 12 0, Value.int 0 0, Value.ref 47, Value.int 21 0, Value.int 0 0, Value.ref 70, Value.int 25 0, Value.int 0 0, Value.ref 77, Value.int 35 0, Value.int 0 0, Value.ref 84, Value.int 39 0, Value.int 0 0, Value.ref 91, Value.int 41 0, Value.int 0 0, Value.ref 98, Value.int 43 0, Value.int 0 0, Value.ref 105, Value.int 45 0, Value.int 0 0, Value.ref 112, Value.int 51 0, Value.int 0 0, Value.ref 119, Value.int 55 0, Value.int 0 0, Value.ref 126] }
noncomputable def heap2 (P : Params) : Heap := ⟨Array.mk [boot_o_0 P, boot_o_1 P, k2 P, obc19at3 P, boot_o_4 P, boot_o_5 P, boot_o_6 P, boot_o_7 P, boot_o_8 P, boot_o_9 P, boot_o_10 P, ob11 P, obc19at12 P, ob13 P, ob14 P, ob15 P, ob16 P, ob17 P, ob18 P, ob19 P, k20 P, k21 P, ob22 P, ob23 P, ob24 P, ob25 P, ob26 P, k27 P, k28 P, k29 P, ob30 P, ob31 P, ob32 P, ob33 P, ob34 P, ob35 P, ob36 P, k37 P, k38 P, k39 P, ob40 P, ob41 P, k42 P, ob43 P, ob44 P, ob45 P, ob46 P, ob47 P, ob48 P, ob49 P, ob50 P, ob51 P, ob52 P, ob53 P, k54 P, k55 P, ob56 P, k57 P, k58 P, ob59 P, ob60 P, k61 P, k62 P, k63 P, k64 P, ob65 P, ob66 P, ob67 P, ob68 P, ob69 P, k70 P, k71 P, ob72 P, ob73 P, ob74 P, ob75 P, ob76 P, k77 P, k78 P, ob79 P, ob80 P, ob81 P, ob82 P, ob83 P, k84 P, k85 P, ob86 P, ob87 P, ob88 P, ob89 P, ob90 P, k91 P, k92 P, ob93 P, ob94 P, ob95 P, ob96 P, ob97 P, k98 P, k99 P, ob100 P, ob101 P, ob102 P, ob103 P, ob104 P, k105 P, k106 P, ob107 P, ob108 P, ob109 P, ob110 P, ob111 P, k112 P, k113 P, ob114 P, ob115 P, ob116 P, ob117 P, ob118 P, k119 P, k120 P, ob121 P, ob122 P, ob123 P, ob124 P, ob125 P, k126 P, k127 P], {}⟩
noncomputable def obc28at3 (P : Params) : Obj := { cls := Value.type "dict", data := Data.dict #[{ hash := PyData.keyHash P (Str.ofString "__name__"), key := Value.str (Str.ofString "__name__") 165, val := Value.str (Str.ofString "vectorcove.rational") 251 }, { hash := PyData.keyHash P (Str.ofString "__doc__"), key := Value.str (Str.ofString "__doc__") 166, val := Value.none }, { hash := PyData.keyHash P (Str.ofString "__package__"), key := Value.str (Str.ofString "__package__") 167, val := Value.none }, { hash := PyData.keyHash P (Str.ofString "__loader__"), key := Value.str (Str.ofString "__loader__") 168, val := Value.builtin "__main__.__loader__#opaque" }, { hash := PyData.keyHash P (Str.ofString "__spec__"), key := Value.str (Str.ofString "__spec__") 169, val := Value.none }, { hash := PyData.keyHash P (Str.ofString "__annotations__"), key := Value.str (Str.ofString "__annotations__") 170, val := Value.ref 6 }, { hash := PyData.keyHash P (Str.ofString "__builtins__"), key := Value.str (Str.ofString "__builtins__") 171, val := Value.ref 4 }, { hash := PyData.keyHash P (Str.ofString "__file__"), key := Value.str (Str.ofString "__file__") 173, val := Value.str (Str.ofString "/claim/cut.py") 172 }, { hash := PyData.keyHash P (Str.ofString "__cached__"), key := Value.str (Str.ofString "__cached__") 174, val := Value.none }, { hash := PyData.keyHash P (Str.ofString "_wall"), key := Value.str (Str.ofString "_wall") 193, val := Value.ref 21 }, { hash := PyData.keyHash P (Str.ofString "keep_all"), key := Value.str (Str.ofString "keep_all") 203, val := Value.ref 28 }, { hash := PyData.keyHash P (Str.ofString "CoveError"), key := Value.str (Str.ofString "CoveError") 225, val := Value.ref 38 }, { hash := PyData.keyHash P (Str.ofString "Refusal"), key := Value.str (Str.ofString "Refusal") 250, val := Value.ref 58 }, { hash := PyData.keyHash P (Str.ofString "NAN"), key := Value.str (Str.ofString "NAN") 255, val := Value.ref 61 }, { hash := PyData.keyHash P (Str.ofString "INF"), key := Value.str (Str.ofString "INF") 258, val := Value.ref 62 }, { hash := PyData.keyHash P (Str.ofString "ZERO"), key := Value.str (Str.ofString "ZERO") 261, val := Value.ref 63 }, { hash := PyData.keyHash P (Str.ofString "ONE"), key := Value.str (Str.ofString "ONE") 264, val := Value.ref 64 }, { hash := PyData.keyHash P (Str.ofString "gcd"), key := Value.str (Str.ofString "gcd") 272, val := Value.ref 71 }, { hash := PyData.keyHash P (Str.ofString "make"), key := Value.str (Str.ofString "make") 281, val := Value.ref 78 }, { hash := PyData.keyHash P (Str.ofString "from_int"), key := Value.str (Str.ofString "from_int") 288, val := Value.ref 85 }, { hash := PyData.keyHash P (Str.ofString "is_na"), key := Value.str (Str.ofString "is_na") 295, val := Value.ref 92 }, { hash := PyData.keyHash P (Str.ofString "is_nan"), key := Value.str (Str.ofString "is_nan") 302, val := Value.ref 99 }, { hash := PyData.keyHash P (Str.ofString "is_finite"), key := Value.str (Str.ofString "is_finite") 309, val := Value.ref 106 }, { hash := PyData.keyHash P (Str.ofString "sign"), key := Value.str (Str.ofString "sign") 316, val := Value.ref 113 }, { hash := PyData.keyHash P (Str.ofString "marked"), key := Value.str (Str.ofString "marked") 324, val := Value.ref 120 }, { hash := PyData.keyHash P (Str.ofString "neg"), key := Value.str (Str.ofString "neg") 331, val := Value.ref 127 }, { hash := PyData.keyHash P (Str.ofString "mul"), key := Value.str (Str.ofString "mul") 339, val := Value.ref 134 }, { hash := PyData.keyHash P (Str.ofString "div"), key := Value.str (Str.ofString "div") 347, val := Value.ref 141 }, { hash := PyData.keyHash P (Str.ofString "isqrt"), key := Value.str (Str.ofString "isqrt") 356, val := Value.ref 148 }, { hash := PyData.keyHash P (Str.ofString "root"), key := Value.str (Str.ofString "root") 365, val := Value.ref 155 }, { hash := PyData.keyHash P (Str.ofString "floor"), key := Value.str (Str.ofString "floor") 372, val := Value.ref 162 }, { hash := PyData.keyHash P (Str.ofString "ceiling"), key := Value.str (Str.ofString "ceiling") 379, val := Value.ref 169 }, { hash := PyData.keyHash P (Str.ofString "trunc"), key := Value.str (Str.ofString "trunc") 386, val := Value.ref 176 }, { hash := PyData.keyHash P (Str.ofString "to_whole"), key := Value.str (Str.ofString "to_whole") 394, val := Value.ref 183 }, { hash := PyData.keyHash P (Str.ofString "nearest_whole"), key := Value.str (Str.ofString "nearest_whole") 404, val := Value.ref 190 }] 35 }
noncomputable def obc28at12 (P : Params) : Obj := { cls := Value.none, data := Data.fields #[Value.int 1 0, Value.int 0 0, Value.ref 20, Value.int 5 0, Value.int 0 0, Value.ref 27, Value.int 10 0, Value.int 0 0, Value.ref 34, Value.int 12 0, Value.int 0 0, Value.ref 47, Value.int 21 0, Value.int 0 0, Value.ref 70, Value.int 25 0, Value.int 0 0, Value.ref 77, Value.int 35 0, Value.int 0 0, Value.ref 84, Value.int 39 0, Value.int 0 0, Value.ref 91, Value.int 41 0, Value.int 0 0, Value.ref 98, Value.int 43 0, Value.int 0 0, Value.ref 105, Value.int 45 0, Value.int 0 0, Value.ref 112, Value.int 51 0, Value.int 0 0, Value.ref 119, Value.int 55 0, Value.int 0 0, Value.ref 126, Value.int 59 0, Value.int 0 0, Value.ref 133, Value.int 63 0, Value.int 0 0, Value.ref 140, Value.int 71 0, Value.int 0 0, Value.ref 147, Value.int 82 0, Value.int 0 0, Value.ref 154, Value.int 92 0, Value.int 0 0, Value.ref 161, Value.int 96 0, Value.int 0 0, Value.ref 168, Value.int 98 0, Value.int 0 0, Value.ref 175, Value.int 102 0, Value.int 0 0, Value.ref 182, Value.int 107 0, Value.int 0 0, Value.ref 189] }
noncomputable def heap3 (P : Params) : Heap := ⟨Array.mk [boot_o_0 P, boot_o_1 P, k2 P, obc28at3 P, boot_o_4 P, boot_o_5 P, boot_o_6 P, boot_o_7 P, boot_o_8 P, boot_o_9 P, boot_o_10 P, ob11 P, obc28at12 P, ob13 P, ob14 P, ob15 P, ob16 P, ob17 P, ob18 P, ob19 P, k20 P, k21 P, ob22 P, ob23 P, ob24 P, ob25 P, ob26 P, k27 P, k28 P, k29 P, ob30 P, ob31 P, ob32 P, ob33 P, ob34 P, ob35 P, ob36 P, k37 P, k38 P, k39 P, ob40 P, ob41 P, k42 P, ob43 P, ob44 P, ob45 P, ob46 P, ob47 P, ob48 P, ob49 P, ob50 P, ob51 P, ob52 P, ob53 P, k54 P, k55 P, ob56 P, k57 P, k58 P, ob59 P, ob60 P, k61 P, k62 P, k63 P, k64 P, ob65 P, ob66 P, ob67 P, ob68 P, ob69 P, k70 P, k71 P, ob72 P, ob73 P, ob74 P, ob75 P, ob76 P, k77 P, k78 P, ob79 P, ob80 P, ob81 P, ob82 P, ob83 P, k84 P, k85 P, ob86 P, ob87 P, ob88 P, ob89 P, ob90 P, k91 P, k92 P, ob93 P, ob94 P, ob95 P, ob96 P, ob97 P, k98 P, k99 P, ob100 P, ob101 P, ob102 P, ob103 P, ob104 P, k105 P, k106 P, ob107 P, ob108 P, ob109 P, ob110 P, ob111 P, k112 P, k113 P, ob114 P, ob115 P, ob116 P, ob117 P, ob118 P, k119 P, k120 P, ob121 P, ob122 P, ob123 P, ob124 P, ob125 P, k126 P, k127 P, ob128 P, ob129 P, ob130 P, ob131 P, ob132 P, k133 P, k134 P, ob135 P, ob136 P, ob137 P, ob138 P, ob139 P, k140 P, k141 P, ob142 P, ob143 P, ob144 P, ob145 P, ob146 P, k147 P, k148 P, ob149 P, ob150 P, ob151 P, ob152 P, ob153 P, k154 P, k155 P, ob156 P, ob157 P, ob158 P, ob159 P, ob160 P, k161 P, k162 P, ob163 P, ob164 P, ob165 P, ob166 P, ob167 P, k168 P, k169 P, ob170 P, ob171 P, ob172 P, ob173 P, ob174 P, k175 P, k176 P, ob177 P, ob178 P, ob179 P, ob180 P, ob181 P, k182 P, k183 P, ob184 P, ob185 P, ob186 P, ob187 P, ob188 P, k189 P, k190 P], {}⟩
noncomputable def obc34at3 (P : Params) : Obj := { cls := Value.type "dict", data := Data.dict #[{ hash := PyData.keyHash P (Str.ofString "__name__"), key := Value.str (Str.ofString "__name__") 165, val := Value.str (Str.ofString "vectorcove.values") 450 }, { hash := PyData.keyHash P (Str.ofString "__doc__"), key := Value.str (Str.ofString "__doc__") 166, val := Value.none }, { hash := PyData.keyHash P (Str.ofString "__package__"), key := Value.str (Str.ofString "__package__") 167, val := Value.none }, { hash := PyData.keyHash P (Str.ofString "__loader__"), key := Value.str (Str.ofString "__loader__") 168, val := Value.builtin "__main__.__loader__#opaque" }, { hash := PyData.keyHash P (Str.ofString "__spec__"), key := Value.str (Str.ofString "__spec__") 169, val := Value.none }, { hash := PyData.keyHash P (Str.ofString "__annotations__"), key := Value.str (Str.ofString "__annotations__") 170, val := Value.ref 6 }, { hash := PyData.keyHash P (Str.ofString "__builtins__"), key := Value.str (Str.ofString "__builtins__") 171, val := Value.ref 4 }, { hash := PyData.keyHash P (Str.ofString "__file__"), key := Value.str (Str.ofString "__file__") 173, val := Value.str (Str.ofString "/claim/cut.py") 172 }, { hash := PyData.keyHash P (Str.ofString "__cached__"), key := Value.str (Str.ofString "__cached__") 174, val := Value.none }, { hash := PyData.keyHash P (Str.ofString "_wall"), key := Value.str (Str.ofString "_wall") 193, val := Value.ref 21 }, { hash := PyData.keyHash P (Str.ofString "keep_all"), key := Value.str (Str.ofString "keep_all") 203, val := Value.ref 28 }, { hash := PyData.keyHash P (Str.ofString "CoveError"), key := Value.str (Str.ofString "CoveError") 225, val := Value.ref 38 }, { hash := PyData.keyHash P (Str.ofString "Refusal"), key := Value.str (Str.ofString "Refusal") 250, val := Value.ref 58 }, { hash := PyData.keyHash P (Str.ofString "NAN"), key := Value.str (Str.ofString "NAN") 255, val := Value.ref 61 }, { hash := PyData.keyHash P (Str.ofString "INF"), key := Value.str (Str.ofString "INF") 258, val := Value.ref 62 }, { hash := PyData.keyHash P (Str.ofString "ZERO"), key := Value.str (Str.ofString "ZERO") 261, val := Value.ref 63 }, { hash := PyData.keyHash P (Str.ofString "ONE"), key := Value.str (Str.ofString "ONE") 264, val := Value.ref 64 }, { hash := PyData.keyHash P (Str.ofString "gcd"), key := Value.str (Str.ofString "gcd") 272, val := Value.ref 71 }, { hash := PyData.keyHash P (Str.ofString "make"), key := Value.str (Str.ofString "make") 281, val := Value.ref 78 }, { hash := PyData.keyHash P (Str.ofString "from_int"), key := Value.str (Str.ofString "from_int") 288, val := Value.ref 85 }, { hash := PyData.keyHash P (Str.ofString "is_na"), key := Value.str (Str.ofString "is_na") 295, val := Value.ref 92 }, { hash := PyData.keyHash P (Str.ofString "is_nan"), key := Value.str (Str.ofString "is_nan") 302, val := Value.ref 99 }, { hash := PyData.keyHash P (Str.ofString "is_finite"), key := Value.str (Str.ofString "is_finite") 309, val := Value.ref 106 }, { hash := PyData.keyHash P (Str.ofString "sign"), key := Value.str (Str.ofString "sign") 316, val := Value.ref 113 }, { hash := PyData.keyHash P (Str.ofString "marked"), key := Value.str (Str.ofString "marked") 324, val := Value.ref 120 }, { hash := PyData.keyHash P (Str.ofString "neg"), key := Value.str (Str.ofString "neg") 331, val := Value.ref 127 }, { hash := PyData.keyHash P (Str.ofString "mul"), key := Value.str (Str.ofString "mul") 339, val := Value.ref 134 }, { hash := PyData.keyHash P (Str.ofString "div"), key := Value.str (Str.ofString "div") 347, val := Value.ref 141 }, { hash := PyData.keyHash P (Str.ofString "isqrt"), key := Value.str (Str.ofString "isqrt") 356, val := Value.ref 148 }, { hash := PyData.keyHash P (Str.ofString "root"), key := Value.str (Str.ofString "root") 365, val := Value.ref 155 }, { hash := PyData.keyHash P (Str.ofString "floor"), key := Value.str (Str.ofString "floor") 372, val := Value.ref 162 }, { hash := PyData.keyHash P (Str.ofString "ceiling"), key := Value.str (Str.ofString "ceiling") 379, val := Value.ref 169 }, { hash := PyData.keyHash P (Str.ofString "trunc"), key := Value.str (Str.ofString "trunc") 386, val := Value.ref 176 }, { hash := PyData.keyHash P (Str.ofString "to_whole"), key := Value.str (Str.ofString "to_whole") 394, val := Value.ref 183 }, { hash := PyData.keyHash P (Str.ofString "nearest_whole"), key := Value.str (Str.ofString "nearest_whole") 404, val := Value.ref 190 }, { hash := PyData.keyHash P (Str.ofString "rounded"), key := Value.str (Str.ofString "rounded") 413, val := Value.ref 197 }, { hash := PyData.keyHash P (Str.ofString "round_half_even"), key := Value.str (Str.ofString "round_half_even") 421, val := Value.ref 204 }, { hash := PyData.keyHash P (Str.ofString "exponent"), key := Value.str (Str.ofString "exponent") 431, val := Value.ref 211 }, { hash := PyData.keyHash P (Str.ofString "signif"), key := Value.str (Str.ofString "signif") 439, val := Value.ref 218 }, { hash := PyData.keyHash P (Str.ofString "compare"), key := Value.str (Str.ofString "compare") 449, val := Value.ref 225 }] 40 }
noncomputable def obc34at12 (P : Params) : Obj := { cls := Value.none, data := Data.fields #[Value.int 1 0, Value.int 0 0, Value.ref 20, Value.int 5 0, Value.int 0 0, Value.ref 27, Value.int 10 0, Value.int 0 0, Value.ref 34, Value.int 12 0, Value.int 0 0, Value.ref 47, Value.int 21 0, Value.int 0 0, Value.ref 70, Value.int 25 0, Value.int 0 0, Value.ref 77, Value.int 35 0, Value.int 0 0, Value.ref 84, Value.int 39 0, Value.int 0 0, Value.ref 91, Value.int 41 0, Value.int 0 0, Value.ref 98, Value.int 43 0, Value.int 0 0, Value.ref 105, Value.int 45 0, Value.int 0 0, Value.ref 112, Value.int 51 0, Value.int 0 0, Value.ref 119, Value.int 55 0, Value.int 0 0, Value.ref 126, Value.int 59 0, Value.int 0 0, Value.ref 133, Value.int 63 0, Value.int 0 0, Value.ref 140, Value.int 71 0, Value.int 0 0, Value.ref 147, Value.int 82 0, Value.int 0 0, Value.ref 154, Value.int 92 0, Value.int 0 0, Value.ref 161, Value.int 96 0, Value.int 0 0, Value.ref 168, Value.int 98 0, Value.int 0 0, Value.ref 175, Value.int 102 0, Value.int 0 0, Value.ref 182, Value.int 107 0, Value.int 0 0, Value.ref 189, Value.int 113 0, Value.int 0 0, Value.ref 196, Value.int 119 0, Value.int 0 0, Value.ref 203, Value.int 123 0, Value.int 0 0, Value.ref 210, Value.int 134 0, Value.int 0 0, Value.ref 217, Value.int 138 0, Value.int 0 0, Value.ref 224] }
noncomputable def heap4 (P : Params) : Heap := ⟨Array.mk [boot_o_0 P, boot_o_1 P, k2 P, obc34at3 P, boot_o_4 P, boot_o_5 P, boot_o_6 P, boot_o_7 P, boot_o_8 P, boot_o_9 P, boot_o_10 P, ob11 P, obc34at12 P, ob13 P, ob14 P, ob15 P, ob16 P, ob17 P, ob18 P, ob19 P, k20 P, k21 P, ob22 P, ob23 P, ob24 P, ob25 P, ob26 P, k27 P, k28 P, k29 P, ob30 P, ob31 P, ob32 P, ob33 P, ob34 P, ob35 P, ob36 P, k37 P, k38 P, k39 P, ob40 P, ob41 P, k42 P, ob43 P, ob44 P, ob45 P, ob46 P, ob47 P, ob48 P, ob49 P, ob50 P, ob51 P, ob52 P, ob53 P, k54 P, k55 P, ob56 P, k57 P, k58 P, ob59 P, ob60 P, k61 P, k62 P, k63 P, k64 P, ob65 P, ob66 P, ob67 P, ob68 P, ob69 P, k70 P, k71 P, ob72 P, ob73 P, ob74 P, ob75 P, ob76 P, k77 P, k78 P, ob79 P, ob80 P, ob81 P, ob82 P, ob83 P, k84 P, k85 P, ob86 P, ob87 P, ob88 P, ob89 P, ob90 P, k91 P, k92 P, ob93 P, ob94 P, ob95 P, ob96 P, ob97 P, k98 P, k99 P, ob100 P, ob101 P, ob102 P, ob103 P, ob104 P, k105 P, k106 P, ob107 P, ob108 P, ob109 P, ob110 P, ob111 P, k112 P, k113 P, ob114 P, ob115 P, ob116 P, ob117 P, ob118 P, k119 P, k120 P, ob121 P, ob122 P, ob123 P, ob124 P, ob125 P, k126 P, k127 P, ob128 P, ob129 P, ob130 P, ob131 P, ob132 P, k133 P, k134 P, ob135 P, ob136 P, ob137 P, ob138 P, ob139 P, k140 P, k141 P, ob142 P, ob143 P, ob144 P, ob145 P, ob146 P, k147 P, k148 P, ob149 P, ob150 P, ob151 P, ob152 P, ob153 P, k154 P, k155 P, ob156 P, ob157 P, ob158 P, ob159 P, ob160 P, k161 P, k162 P, ob163 P, ob164 P, ob165 P, ob166 P, ob167 P, k168 P, k169 P, ob170 P, ob171 P, ob172 P, ob173 P, ob174 P, k175 P, k176 P, ob177 P, ob178 P, ob179 P, ob180 P, ob181 P, k182 P, k183 P, ob184 P, ob185 P, ob186 P, ob187 P, ob188 P, k189 P, k190 P, ob191 P, ob192 P, ob193 P, ob194 P, ob195 P, k196 P, k197 P, ob198 P, ob199 P, ob200 P, ob201 P, ob202 P, k203 P, k204 P, ob205 P, ob206 P, ob207 P, ob208 P, ob209 P, k210 P, k211 P, ob212 P, ob213 P, ob214 P, ob215 P, ob216 P, k217 P, k218 P, ob219 P, ob220 P, ob221 P, ob222 P, ob223 P, k224 P, k225 P], {}⟩
noncomputable def obc37at3 (P : Params) : Obj := { cls := Value.type "dict", data := Data.dict #[{ hash := PyData.keyHash P (Str.ofString "__name__"), key := Value.str (Str.ofString "__name__") 165, val := Value.str (Str.ofString "vectorcove.mathfun") 494 }, { hash := PyData.keyHash P (Str.ofString "__doc__"), key := Value.str (Str.ofString "__doc__") 166, val := Value.none }, { hash := PyData.keyHash P (Str.ofString "__package__"), key := Value.str (Str.ofString "__package__") 167, val := Value.none }, { hash := PyData.keyHash P (Str.ofString "__loader__"), key := Value.str (Str.ofString "__loader__") 168, val := Value.builtin "__main__.__loader__#opaque" }, { hash := PyData.keyHash P (Str.ofString "__spec__"), key := Value.str (Str.ofString "__spec__") 169, val := Value.none }, { hash := PyData.keyHash P (Str.ofString "__annotations__"), key := Value.str (Str.ofString "__annotations__") 170, val := Value.ref 6 }, { hash := PyData.keyHash P (Str.ofString "__builtins__"), key := Value.str (Str.ofString "__builtins__") 171, val := Value.ref 4 }, { hash := PyData.keyHash P (Str.ofString "__file__"), key := Value.str (Str.ofString "__file__") 173, val := Value.str (Str.ofString "/claim/cut.py") 172 }, { hash := PyData.keyHash P (Str.ofString "__cached__"), key := Value.str (Str.ofString "__cached__") 174, val := Value.none }, { hash := PyData.keyHash P (Str.ofString "_wall"), key := Value.str (Str.ofString "_wall") 193, val := Value.ref 21 }, { hash := PyData.keyHash P (Str.ofString "keep_all"), key := Value.str (Str.ofString "keep_all") 203, val := Value.ref 28 }, { hash := PyData.keyHash P (Str.ofString "CoveError"), key := Value.str (Str.ofString "CoveError") 225, val := Value.ref 38 }, { hash := PyData.keyHash P (Str.ofString "Refusal"), key := Value.str (Str.ofString "Refusal") 250, val := Value.ref 58 }, { hash := PyData.keyHash P (Str.ofString "NAN"), key := Value.str (Str.ofString "NAN") 255, val := Value.ref 61 }, { hash := PyData.keyHash P (Str.ofString "INF"), key := Value.str (Str.ofString "INF") 258, val := Value.ref 62 }, { hash := PyData.keyHash P (Str.ofString "ZERO"), key := Value.str (Str.ofString "ZERO") 261, val := Value.ref 63 }, { hash := PyData.keyHash P (Str.ofString "ONE"), key := Value.str (Str.ofString "ONE") 264, val := Value.ref 64 }, { hash := PyData.keyHash P (Str.ofString "gcd"), key := Value.str (Str.ofString "gcd") 272, val := Value.ref 71 }, { hash := PyData.keyHash P (Str.ofString "make"), key := Value.str (Str.ofString "make") 281, val := Value.ref 78 }, { hash := PyData.keyHash P (Str.ofString "from_int"), key := Value.str (Str.ofString "from_int") 288, val := Value.ref 85 }, { hash := PyData.keyHash P (Str.ofString "is_na"), key := Value.str (Str.ofString "is_na") 295, val := Value.ref 92 }, { hash := PyData.keyHash P (Str.ofString "is_nan"), key := Value.str (Str.ofString "is_nan") 302, val := Value.ref 99 }, { hash := PyData.keyHash P (Str.ofString "is_finite"), key := Value.str (Str.ofString "is_finite") 309, val := Value.ref 106 }, { hash := PyData.keyHash P (Str.ofString "sign"), key := Value.str (Str.ofString "sign") 316, val := Value.ref 113 }, { hash := PyData.keyHash P (Str.ofString "marked"), key := Value.str (Str.ofString "marked") 324, val := Value.ref 120 }, { hash := PyData.keyHash P (Str.ofString "neg"), key := Value.str (Str.ofString "neg") 331, val := Value.ref 127 }, { hash := PyData.keyHash P (Str.ofString "mul"), key := Value.str (Str.ofString "mul") 339, val := Value.ref 134 }, { hash := PyData.keyHash P (Str.ofString "div"), key := Value.str (Str.ofString "div") 347, val := Value.ref 141 }, { hash := PyData.keyHash P (Str.ofString "isqrt"), key := Value.str (Str.ofString "isqrt") 356, val := Value.ref 148 }, { hash := PyData.keyHash P (Str.ofString "root"), key := Value.str (Str.ofString "root") 365, val := Value.ref 155 }, { hash := PyData.keyHash P (Str.ofString "floor"), key := Value.str (Str.ofString "floor") 372, val := Value.ref 162 }, { hash := PyData.keyHash P (Str.ofString "ceiling"), key := Value.str (Str.ofString "ceiling") 379, val := Value.ref 169 }, { hash := PyData.keyHash P (Str.ofString "trunc"), key := Value.str (Str.ofString "trunc") 386, val := Value.ref 176 }, { hash := PyData.keyHash P (Str.ofString "to_whole"), key := Value.str (Str.ofString "to_whole") 394, val := Value.ref 183 }, { hash := PyData.keyHash P (Str.ofString "nearest_whole"), key := Value.str (Str.ofString "nearest_whole") 404, val := Value.ref 190 }, { hash := PyData.keyHash P (Str.ofString "rounded"), key := Value.str (Str.ofString "rounded") 413, val := Value.ref 197 }, { hash := PyData.keyHash P (Str.ofString "round_half_even"), key := Value.str (Str.ofString "round_half_even") 421, val := Value.ref 204 }, { hash := PyData.keyHash P (Str.ofString "exponent"), key := Value.str (Str.ofString "exponent") 431, val := Value.ref 211 }, { hash := PyData.keyHash P (Str.ofString "signif"), key := Value.str (Str.ofString "signif") 439, val := Value.ref 218 }, { hash := PyData.keyHash P (Str.ofString "compare"), key := Value.str (Str.ofString "compare") 449, val := Value.ref 225 }, { hash := PyData.keyHash P (Str.ofString "Vector"), key := Value.str (Str.ofString "Vector") 493, val := Value.ref 250 }, { hash := PyData.keyHash P (Str.ofString "MOST_FACTORS"), key := Value.str (Str.ofString "MOST_FACTORS") 497, val := Value.int 4096 496 }] 42 }
noncomputable def obc37at12 (P : Params) : Obj := { cls := Value.none, data := Data.fields #[Value.int 1 0, Value.int 0 0, Value.ref 20, Value.int 5 0, Value.int 0 0, Value.ref 27, Value.int 10 0, Value.int 0 0, Value.ref 34, Value.int 12 0, Value.int 0 0, Value.ref 47, Value.int 21 0, Value.int 0 0, Value.ref 70, Value.int 25 0, Value.int 0 0, Value.ref 77, Value.int 35 0, Value.int 0 0, Value.ref 84, Value.int 39 0, Value.int 0 0, Value.ref 91, Value.int 41 0, Value.int 0 0, Value.ref 98, Value.int 43 0, Value.int 0 0, Value.ref 105, Value.int 45 0, Value.int 0 0, Value.ref 112, Value.int 51 0, Value.int 0 0, Value.ref 119, Value.int 55 0, Value.int 0 0, Value.ref 126, Value.int 59 0, Value.int 0 0, Value.ref 133, Value.int 63 0, Value.int 0 0, Value.ref 140, Value.int 71 0, Value.int 0 0, Value.ref 147, Value.int 82 0, Value.int 0 0, Value.ref 154, Value.int 92 0, Value.int 0 0, Value.ref 161, Value.int 96 0, Value.int 0 0, Value.ref 168, Value.int 98 0, Value.int 0 0, Value.ref 175, Value.int 102 0, Value.int 0 0, Value.ref 182, Value.int 107 0, Value.int 0 0, Value.ref 189, Value.int 113 0, Value.int 0 0, Value.ref 196, Value.int 119 0, Value.int 0 0, Value.ref 203, Value.int 123 0, Value.int 0 0, Value.ref 210, Value.int 134 0, Value.int 0 0, Value.ref 217, Value.int 138 0, Value.int 0 0, Value.ref 224, Value.int 157 0, Value.int 0 0, Value.ref 231] }
noncomputable def heap5 (P : Params) : Heap := ⟨Array.mk [boot_o_0 P, boot_o_1 P, k2 P, obc37at3 P, boot_o_4 P, boot_o_5 P, boot_o_6 P, boot_o_7 P, boot_o_8 P, boot_o_9 P, boot_o_10 P, ob11 P, obc37at12 P, ob13 P, ob14 P, ob15 P, ob16 P, ob17 P, ob18 P, ob19 P, k20 P, k21 P, ob22 P, ob23 P, ob24 P, ob25 P, ob26 P, k27 P, k28 P, k29 P, ob30 P, ob31 P, ob32 P, ob33 P, ob34 P, ob35 P, ob36 P, k37 P, k38 P, k39 P, ob40 P, ob41 P, k42 P, ob43 P, ob44 P, ob45 P, ob46 P, ob47 P, ob48 P, ob49 P, ob50 P, ob51 P, ob52 P, ob53 P, k54 P, k55 P, ob56 P, k57 P, k58 P, ob59 P, ob60 P, k61 P, k62 P, k63 P, k64 P, ob65 P, ob66 P, ob67 P, ob68 P, ob69 P, k70 P, k71 P, ob72 P, ob73 P, ob74 P, ob75 P, ob76 P, k77 P, k78 P, ob79 P, ob80 P, ob81 P, ob82 P, ob83 P, k84 P, k85 P, ob86 P, ob87 P, ob88 P, ob89 P, ob90 P, k91 P, k92 P, ob93 P, ob94 P, ob95 P, ob96 P, ob97 P, k98 P, k99 P, ob100 P, ob101 P, ob102 P, ob103 P, ob104 P, k105 P, k106 P, ob107 P, ob108 P, ob109 P, ob110 P, ob111 P, k112 P, k113 P, ob114 P, ob115 P, ob116 P, ob117 P, ob118 P, k119 P, k120 P, ob121 P, ob122 P, ob123 P, ob124 P, ob125 P, k126 P, k127 P, ob128 P, ob129 P, ob130 P, ob131 P, ob132 P, k133 P, k134 P, ob135 P, ob136 P, ob137 P, ob138 P, ob139 P, k140 P, k141 P, ob142 P, ob143 P, ob144 P, ob145 P, ob146 P, k147 P, k148 P, ob149 P, ob150 P, ob151 P, ob152 P, ob153 P, k154 P, k155 P, ob156 P, ob157 P, ob158 P, ob159 P, ob160 P, k161 P, k162 P, ob163 P, ob164 P, ob165 P, ob166 P, ob167 P, k168 P, k169 P, ob170 P, ob171 P, ob172 P, ob173 P, ob174 P, k175 P, k176 P, ob177 P, ob178 P, ob179 P, ob180 P, ob181 P, k182 P, k183 P, ob184 P, ob185 P, ob186 P, ob187 P, ob188 P, k189 P, k190 P, ob191 P, ob192 P, ob193 P, ob194 P, ob195 P, k196 P, k197 P, ob198 P, ob199 P, ob200 P, ob201 P, ob202 P, k203 P, k204 P, ob205 P, ob206 P, ob207 P, ob208 P, ob209 P, k210 P, k211 P, ob212 P, ob213 P, ob214 P, ob215 P, ob216 P, k217 P, k218 P, ob219 P, ob220 P, ob221 P, ob222 P, ob223 P, k224 P, k225 P, ob226 P, ob227 P, ob228 P, ob229 P, ob230 P, ob231 P, ob232 P, k233 P, ob234 P, ob235 P, ob236 P, ob237 P, ob238 P, k239 P, k240 P, ob241 P, ob242 P, ob243 P, ob244 P, ob245 P, k246 P, k247 P, ob248 P, k249 P, k250 P, k251 P, k252 P, ob253 P, ob254 P], {}⟩
noncomputable def obc47at3 (P : Params) : Obj := { cls := Value.type "dict", data := Data.dict #[{ hash := PyData.keyHash P (Str.ofString "__name__"), key := Value.str (Str.ofString "__name__") 165, val := Value.str (Str.ofString "vectorcove.mathfun") 494 }, { hash := PyData.keyHash P (Str.ofString "__doc__"), key := Value.str (Str.ofString "__doc__") 166, val := Value.none }, { hash := PyData.keyHash P (Str.ofString "__package__"), key := Value.str (Str.ofString "__package__") 167, val := Value.none }, { hash := PyData.keyHash P (Str.ofString "__loader__"), key := Value.str (Str.ofString "__loader__") 168, val := Value.builtin "__main__.__loader__#opaque" }, { hash := PyData.keyHash P (Str.ofString "__spec__"), key := Value.str (Str.ofString "__spec__") 169, val := Value.none }, { hash := PyData.keyHash P (Str.ofString "__annotations__"), key := Value.str (Str.ofString "__annotations__") 170, val := Value.ref 6 }, { hash := PyData.keyHash P (Str.ofString "__builtins__"), key := Value.str (Str.ofString "__builtins__") 171, val := Value.ref 4 }, { hash := PyData.keyHash P (Str.ofString "__file__"), key := Value.str (Str.ofString "__file__") 173, val := Value.str (Str.ofString "/claim/cut.py") 172 }, { hash := PyData.keyHash P (Str.ofString "__cached__"), key := Value.str (Str.ofString "__cached__") 174, val := Value.none }, { hash := PyData.keyHash P (Str.ofString "_wall"), key := Value.str (Str.ofString "_wall") 193, val := Value.ref 21 }, { hash := PyData.keyHash P (Str.ofString "keep_all"), key := Value.str (Str.ofString "keep_all") 203, val := Value.ref 28 }, { hash := PyData.keyHash P (Str.ofString "CoveError"), key := Value.str (Str.ofString "CoveError") 225, val := Value.ref 38 }, { hash := PyData.keyHash P (Str.ofString "Refusal"), key := Value.str (Str.ofString "Refusal") 250, val := Value.ref 58 }, { hash := PyData.keyHash P (Str.ofString "NAN"), key := Value.str (Str.ofString "NAN") 255, val := Value.ref 61 }, { hash := PyData.keyHash P (Str.ofString "INF"), key := Value.str (Str.ofString "INF") 258, val := Value.ref 62 }, { hash := PyData.keyHash P (Str.ofString "ZERO"), key := Value.str (Str.ofString "ZERO") 261, val := Value.ref 63 }, { hash := PyData.keyHash P (Str.ofString "ONE"), key := Value.str (Str.ofString "ONE") 264, val := Value.ref 64 }, { hash := PyData.keyHash P (Str.ofString "gcd"), key := Value.str (Str.ofString "gcd") 272, val := Value.ref 71 }, { hash := PyData.keyHash P (Str.ofString "make"), key := Value.str (Str.ofString "make") 281, val := Value.ref 78 }, { hash := PyData.keyHash P (Str.ofString "from_int"), key := Value.str (Str.ofString "from_int") 288, val := Value.ref 85 }, { hash := PyData.keyHash P (Str.ofString "is_na"), key := Value.str (Str.ofString "is_na") 295, val := Value.ref 92 }, { hash := PyData.keyHash P (Str.ofString "is_nan"), key := Value.str (Str.ofString "is_nan") 302, val := Value.ref 99 }, { hash := PyData.keyHash P (Str.ofString "is_finite"), key := Value.str (Str.ofString "is_finite") 309, val := Value.ref 106 }, { hash := PyData.keyHash P (Str.ofString "sign"), key := Value.str (Str.ofString "sign") 316, val := Value.ref 113 }, { hash := PyData.keyHash P (Str.ofString "marked"), key := Value.str (Str.ofString "marked") 324, val := Value.ref 120 }, { hash := PyData.keyHash P (Str.ofString "neg"), key := Value.str (Str.ofString "neg") 331, val := Value.ref 127 }, { hash := PyData.keyHash P (Str.ofString "mul"), key := Value.str (Str.ofString "mul") 339, val := Value.ref 134 }, { hash := PyData.keyHash P (Str.ofString "div"), key := Value.str (Str.ofString "div") 347, val := Value.ref 141 }, { hash := PyData.keyHash P (Str.ofString "isqrt"), key := Value.str (Str.ofString "isqrt") 356, val := Value.ref 148 }, { hash := PyData.keyHash P (Str.ofString "root"), key := Value.str (Str.ofString "root") 365, val := Value.ref 155 }, { hash := PyData.keyHash P (Str.ofString "floor"), key := Value.str (Str.ofString "floor") 372, val := Value.ref 162 }, { hash := PyData.keyHash P (Str.ofString "ceiling"), key := Value.str (Str.ofString "ceiling") 379, val := Value.ref 169 }, { hash := PyData.keyHash P (Str.ofString "trunc"), key := Value.str (Str.ofString "trunc") 386, val := Value.ref 176 }, { hash := PyData.keyHash P (Str.ofString "to_whole"), key := Value.str (Str.ofString "to_whole") 394, val := Value.ref 183 }, { hash := PyData.keyHash P (Str.ofString "nearest_whole"), key := Value.str (Str.ofString "nearest_whole") 404, val := Value.ref 190 }, { hash := PyData.keyHash P (Str.ofString "rounded"), key := Value.str (Str.ofString "rounded") 413, val := Value.ref 197 }, { hash := PyData.keyHash P (Str.ofString "round_half_even"), key := Value.str (Str.ofString "round_half_even") 421, val := Value.ref 204 }, { hash := PyData.keyHash P (Str.ofString "exponent"), key := Value.str (Str.ofString "exponent") 431, val := Value.ref 211 }, { hash := PyData.keyHash P (Str.ofString "signif"), key := Value.str (Str.ofString "signif") 439, val := Value.ref 218 }, { hash := PyData.keyHash P (Str.ofString "compare"), key := Value.str (Str.ofString "compare") 449, val := Value.ref 225 }, { hash := PyData.keyHash P (Str.ofString "Vector"), key := Value.str (Str.ofString "Vector") 493, val := Value.ref 250 }, { hash := PyData.keyHash P (Str.ofString "MOST_FACTORS"), key := Value.str (Str.ofString "MOST_FACTORS") 497, val := Value.int 4096 496 }, { hash := PyData.keyHash P (Str.ofString "check_math"), key := Value.str (Str.ofString "check_math") 504, val := Value.ref 261 }, { hash := PyData.keyHash P (Str.ofString "doubles"), key := Value.str (Str.ofString "doubles") 510, val := Value.ref 266 }, { hash := PyData.keyHash P (Str.ofString "abs_item"), key := Value.str (Str.ofString "abs_item") 517, val := Value.ref 273 }, { hash := PyData.keyHash P (Str.ofString "sign_item"), key := Value.str (Str.ofString "sign_item") 524, val := Value.ref 280 }, { hash := PyData.keyHash P (Str.ofString "exp_item"), key := Value.str (Str.ofString "exp_item") 531, val := Value.ref 287 }, { hash := PyData.keyHash P (Str.ofString "log_item"), key := Value.str (Str.ofString "log_item") 538, val := Value.ref 294 }, { hash := PyData.keyHash P (Str.ofString "log_above"), key := Value.str (Str.ofString "log_above") 548, val := Value.ref 301 }, { hash := PyData.keyHash P (Str.ofString "log_to"), key := Value.str (Str.ofString "log_to") 556, val := Value.ref 308 }, { hash := PyData.keyHash P (Str.ofString "math_item"), key := Value.str (Str.ofString "math_item") 564, val := Value.ref 315 }, { hash := PyData.keyHash P (Str.ofString "math1"), key := Value.str (Str.ofString "math1") 570, val := Value.ref 320 }] 52 }
noncomputable def obc47at12 (P : Params) : Obj := { cls := Value.none, data := Data.fields #[Value.int 1 0, Value.int 0 0, Value.ref 20, Value.int 5 0, Value.int 0 0, Value.ref 27, Value.int 10 0, Value.int 0 0, Value.ref 34, Value.int 12 0, Value.int 0 0, Value.ref 47, Value.int 21 0, Value.int 0 0, Value.ref 70, Value.int 25 0, Value.int 0 0, Value.ref 77, Value.int 35 0, Value.int 0 0, Value.ref 84, Value.int 39 0, Value.int 0 0, Value.ref 91, Value.int 41 0, Value.int 0 0, Value.ref 98, Value.int 43 0, Value.int 0 0, Value.ref 105, Value.int 45 0, Value.int 0 0, Value.ref 112, Value.int 51 0, Value.int 0 0, Value.ref 119, Value.int 55 0, Value.int 0 0, Value.ref 126, Value.int 59 0, Value.int 0 0, Value.ref 133, Value.int 63 0, Value.int 0 0, Value.ref 140, Value.int 71 0, Value.int 0 0, Value.ref 147, Value.int 82 0, Value.int 0 0, Value.ref 154, Value.int 92 0, Value.int 0 0, Value.ref 161, Value.int 96 0, Value.int 0 0, Value.ref 168, Value.int 98 0, Value.int 0 0, Value.ref 175, Value.int 102 0, Value.int 0 0, Value.ref 182, Value.int 107 0, Value.int 0 0, Value.ref 189, Value.int 113 0, Value.int 0 0, Value.ref 196, Value.int 119 0, Value.int 0 0, Value.ref 203, Value.int 123 0, Value.int 0 0, Value.ref 210, Value.int 134 0, Value.int 0 0, Value.ref 217, Value.int 138 0, Value.int 0 0, Value.ref 224, Value.int 157 0, Value.int 0 0, Value.ref 231, Value.int 170 0, Value.int 0 0, Value.ref 260, Value.int 173 0, Value.int 0 0, Value.ref 265, Value.int 177 0, Value.int 0 0, Value.ref 272, Value.int 181 0, Value.int 0 0, Value.ref 279, Value.int 185 0, Value.int 0 0, Value.ref 286, Value.int 193 0, Value.int 0 0, Value.ref 293, Value.int 203 0, Value.int 0 0, Value.ref 300, Value.int 212 0, Value.int 0 0, Value.ref 307, Value.int 224 0, Value.int 0 0, Value.ref 314, Value.int 244 0, Value.int 0 0, Value.ref 319] }
noncomputable def heap6 (P : Params) : Heap := ⟨Array.mk [boot_o_0 P, boot_o_1 P, k2 P, obc47at3 P, boot_o_4 P, boot_o_5 P, boot_o_6 P, boot_o_7 P, boot_o_8 P, boot_o_9 P, boot_o_10 P, ob11 P, obc47at12 P, ob13 P, ob14 P, ob15 P, ob16 P, ob17 P, ob18 P, ob19 P, k20 P, k21 P, ob22 P, ob23 P, ob24 P, ob25 P, ob26 P, k27 P, k28 P, k29 P, ob30 P, ob31 P, ob32 P, ob33 P, ob34 P, ob35 P, ob36 P, k37 P, k38 P, k39 P, ob40 P, ob41 P, k42 P, ob43 P, ob44 P, ob45 P, ob46 P, ob47 P, ob48 P, ob49 P, ob50 P, ob51 P, ob52 P, ob53 P, k54 P, k55 P, ob56 P, k57 P, k58 P, ob59 P, ob60 P, k61 P, k62 P, k63 P, k64 P, ob65 P, ob66 P, ob67 P, ob68 P, ob69 P, k70 P, k71 P, ob72 P, ob73 P, ob74 P, ob75 P, ob76 P, k77 P, k78 P, ob79 P, ob80 P, ob81 P, ob82 P, ob83 P, k84 P, k85 P, ob86 P, ob87 P, ob88 P, ob89 P, ob90 P, k91 P, k92 P, ob93 P, ob94 P, ob95 P, ob96 P, ob97 P, k98 P, k99 P, ob100 P, ob101 P, ob102 P, ob103 P, ob104 P, k105 P, k106 P, ob107 P, ob108 P, ob109 P, ob110 P, ob111 P, k112 P, k113 P, ob114 P, ob115 P, ob116 P, ob117 P, ob118 P, k119 P, k120 P, ob121 P, ob122 P, ob123 P, ob124 P, ob125 P, k126 P, k127 P, ob128 P, ob129 P, ob130 P, ob131 P, ob132 P, k133 P, k134 P, ob135 P, ob136 P, ob137 P, ob138 P, ob139 P, k140 P, k141 P, ob142 P, ob143 P, ob144 P, ob145 P, ob146 P, k147 P, k148 P, ob149 P, ob150 P, ob151 P, ob152 P, ob153 P, k154 P, k155 P, ob156 P, ob157 P, ob158 P, ob159 P, ob160 P, k161 P, k162 P, ob163 P, ob164 P, ob165 P, ob166 P, ob167 P, k168 P, k169 P, ob170 P, ob171 P, ob172 P, ob173 P, ob174 P, k175 P, k176 P, ob177 P, ob178 P, ob179 P, ob180 P, ob181 P, k182 P, k183 P, ob184 P, ob185 P, ob186 P, ob187 P, ob188 P, k189 P, k190 P, ob191 P, ob192 P, ob193 P, ob194 P, ob195 P, k196 P, k197 P, ob198 P, ob199 P, ob200 P, ob201 P, ob202 P, k203 P, k204 P, ob205 P, ob206 P, ob207 P, ob208 P, ob209 P, k210 P, k211 P, ob212 P, ob213 P, ob214 P, ob215 P, ob216 P, k217 P, k218 P, ob219 P, ob220 P, ob221 P, ob222 P, ob223 P, k224 P, k225 P, ob226 P, ob227 P, ob228 P, ob229 P, ob230 P, ob231 P, ob232 P, k233 P, ob234 P, ob235 P, ob236 P, ob237 P, ob238 P, k239 P, k240 P, ob241 P, ob242 P, ob243 P, ob244 P, ob245 P, k246 P, k247 P, ob248 P, k249 P, k250 P, k251 P, k252 P, ob253 P, ob254 P, ob255 P, ob256 P, ob257 P, ob258 P, ob259 P, k260 P, k261 P, ob262 P, ob263 P, ob264 P, k265 P, k266 P, ob267 P, ob268 P, ob269 P, ob270 P, ob271 P, k272 P, k273 P, ob274 P, ob275 P, ob276 P, ob277 P, ob278 P, k279 P, k280 P, ob281 P, ob282 P, ob283 P, ob284 P, ob285 P, k286 P, k287 P, ob288 P, ob289 P, ob290 P, ob291 P, ob292 P, k293 P, k294 P, ob295 P, ob296 P, ob297 P, ob298 P, ob299 P, k300 P, k301 P, ob302 P, ob303 P, ob304 P, ob305 P, ob306 P, k307 P, k308 P, ob309 P, ob310 P, ob311 P, ob312 P, ob313 P, k314 P, k315 P, ob316 P, ob317 P, ob318 P, k319 P, k320 P], {}⟩
noncomputable def obc57at3 (P : Params) : Obj := { cls := Value.type "dict", data := Data.dict #[{ hash := PyData.keyHash P (Str.ofString "__name__"), key := Value.str (Str.ofString "__name__") 165, val := Value.str (Str.ofString "law_nz0482_01") 583 }, { hash := PyData.keyHash P (Str.ofString "__doc__"), key := Value.str (Str.ofString "__doc__") 166, val := Value.none }, { hash := PyData.keyHash P (Str.ofString "__package__"), key := Value.str (Str.ofString "__package__") 167, val := Value.none }, { hash := PyData.keyHash P (Str.ofString "__loader__"), key := Value.str (Str.ofString "__loader__") 168, val := Value.builtin "__main__.__loader__#opaque" }, { hash := PyData.keyHash P (Str.ofString "__spec__"), key := Value.str (Str.ofString "__spec__") 169, val := Value.none }, { hash := PyData.keyHash P (Str.ofString "__annotations__"), key := Value.str (Str.ofString "__annotations__") 170, val := Value.ref 6 }, { hash := PyData.keyHash P (Str.ofString "__builtins__"), key := Value.str (Str.ofString "__builtins__") 171, val := Value.ref 4 }, { hash := PyData.keyHash P (Str.ofString "__file__"), key := Value.str (Str.ofString "__file__") 173, val := Value.str (Str.ofString "/claim/cut.py") 172 }, { hash := PyData.keyHash P (Str.ofString "__cached__"), key := Value.str (Str.ofString "__cached__") 174, val := Value.none }, { hash := PyData.keyHash P (Str.ofString "_wall"), key := Value.str (Str.ofString "_wall") 193, val := Value.ref 21 }, { hash := PyData.keyHash P (Str.ofString "keep_all"), key := Value.str (Str.ofString "keep_all") 203, val := Value.ref 28 }, { hash := PyData.keyHash P (Str.ofString "CoveError"), key := Value.str (Str.ofString "CoveError") 225, val := Value.ref 38 }, { hash := PyData.keyHash P (Str.ofString "Refusal"), key := Value.str (Str.ofString "Refusal") 250, val := Value.ref 58 }, { hash := PyData.keyHash P (Str.ofString "NAN"), key := Value.str (Str.ofString "NAN") 255, val := Value.ref 61 }, { hash := PyData.keyHash P (Str.ofString "INF"), key := Value.str (Str.ofString "INF") 258, val := Value.ref 62 }, { hash := PyData.keyHash P (Str.ofString "ZERO"), key := Value.str (Str.ofString "ZERO") 261, val := Value.ref 63 }, { hash := PyData.keyHash P (Str.ofString "ONE"), key := Value.str (Str.ofString "ONE") 264, val := Value.ref 64 }, { hash := PyData.keyHash P (Str.ofString "gcd"), key := Value.str (Str.ofString "gcd") 272, val := Value.ref 71 }, { hash := PyData.keyHash P (Str.ofString "make"), key := Value.str (Str.ofString "make") 281, val := Value.ref 78 }, { hash := PyData.keyHash P (Str.ofString "from_int"), key := Value.str (Str.ofString "from_int") 288, val := Value.ref 85 }, { hash := PyData.keyHash P (Str.ofString "is_na"), key := Value.str (Str.ofString "is_na") 295, val := Value.ref 92 }, { hash := PyData.keyHash P (Str.ofString "is_nan"), key := Value.str (Str.ofString "is_nan") 302, val := Value.ref 99 }, { hash := PyData.keyHash P (Str.ofString "is_finite"), key := Value.str (Str.ofString "is_finite") 309, val := Value.ref 106 }, { hash := PyData.keyHash P (Str.ofString "sign"), key := Value.str (Str.ofString "sign") 316, val := Value.ref 113 }, { hash := PyData.keyHash P (Str.ofString "marked"), key := Value.str (Str.ofString "marked") 324, val := Value.ref 120 }, { hash := PyData.keyHash P (Str.ofString "neg"), key := Value.str (Str.ofString "neg") 331, val := Value.ref 127 }, { hash := PyData.keyHash P (Str.ofString "mul"), key := Value.str (Str.ofString "mul") 339, val := Value.ref 134 }, { hash := PyData.keyHash P (Str.ofString "div"), key := Value.str (Str.ofString "div") 347, val := Value.ref 141 }, { hash := PyData.keyHash P (Str.ofString "isqrt"), key := Value.str (Str.ofString "isqrt") 356, val := Value.ref 148 }, { hash := PyData.keyHash P (Str.ofString "root"), key := Value.str (Str.ofString "root") 365, val := Value.ref 155 }, { hash := PyData.keyHash P (Str.ofString "floor"), key := Value.str (Str.ofString "floor") 372, val := Value.ref 162 }, { hash := PyData.keyHash P (Str.ofString "ceiling"), key := Value.str (Str.ofString "ceiling") 379, val := Value.ref 169 }, { hash := PyData.keyHash P (Str.ofString "trunc"), key := Value.str (Str.ofString "trunc") 386, val := Value.ref 176 }, { hash := PyData.keyHash P (Str.ofString "to_whole"), key := Value.str (Str.ofString "to_whole") 394, val := Value.ref 183 }, { hash := PyData.keyHash P (Str.ofString "nearest_whole"), key := Value.str (Str.ofString "nearest_whole") 404, val := Value.ref 190 }, { hash := PyData.keyHash P (Str.ofString "rounded"), key := Value.str (Str.ofString "rounded") 413, val := Value.ref 197 }, { hash := PyData.keyHash P (Str.ofString "round_half_even"), key := Value.str (Str.ofString "round_half_even") 421, val := Value.ref 204 }, { hash := PyData.keyHash P (Str.ofString "exponent"), key := Value.str (Str.ofString "exponent") 431, val := Value.ref 211 }, { hash := PyData.keyHash P (Str.ofString "signif"), key := Value.str (Str.ofString "signif") 439, val := Value.ref 218 }, { hash := PyData.keyHash P (Str.ofString "compare"), key := Value.str (Str.ofString "compare") 449, val := Value.ref 225 }, { hash := PyData.keyHash P (Str.ofString "Vector"), key := Value.str (Str.ofString "Vector") 493, val := Value.ref 250 }, { hash := PyData.keyHash P (Str.ofString "MOST_FACTORS"), key := Value.str (Str.ofString "MOST_FACTORS") 497, val := Value.int 4096 496 }, { hash := PyData.keyHash P (Str.ofString "check_math"), key := Value.str (Str.ofString "check_math") 504, val := Value.ref 261 }, { hash := PyData.keyHash P (Str.ofString "doubles"), key := Value.str (Str.ofString "doubles") 510, val := Value.ref 266 }, { hash := PyData.keyHash P (Str.ofString "abs_item"), key := Value.str (Str.ofString "abs_item") 517, val := Value.ref 273 }, { hash := PyData.keyHash P (Str.ofString "sign_item"), key := Value.str (Str.ofString "sign_item") 524, val := Value.ref 280 }, { hash := PyData.keyHash P (Str.ofString "exp_item"), key := Value.str (Str.ofString "exp_item") 531, val := Value.ref 287 }, { hash := PyData.keyHash P (Str.ofString "log_item"), key := Value.str (Str.ofString "log_item") 538, val := Value.ref 294 }, { hash := PyData.keyHash P (Str.ofString "log_above"), key := Value.str (Str.ofString "log_above") 548, val := Value.ref 301 }, { hash := PyData.keyHash P (Str.ofString "log_to"), key := Value.str (Str.ofString "log_to") 556, val := Value.ref 308 }, { hash := PyData.keyHash P (Str.ofString "math_item"), key := Value.str (Str.ofString "math_item") 564, val := Value.ref 315 }, { hash := PyData.keyHash P (Str.ofString "math1"), key := Value.str (Str.ofString "math1") 570, val := Value.ref 320 }, { hash := PyData.keyHash P (Str.ofString "round_to"), key := Value.str (Str.ofString "round_to") 576, val := Value.ref 325 }, { hash := PyData.keyHash P (Str.ofString "signif_to"), key := Value.str (Str.ofString "signif_to") 582, val := Value.ref 330 }, { hash := PyData.keyHash P (Str.ofString "_law_row"), key := Value.str (Str.ofString "_law_row") 595, val := Value.ref 337 }, { hash := PyData.keyHash P (Str.ofString "_law_next"), key := Value.str (Str.ofString "_law_next") 602, val := Value.ref 344 }, { hash := PyData.keyHash P (Str.ofString "_law_reduced"), key := Value.str (Str.ofString "_law_reduced") 612, val := Value.ref 351 }, { hash := PyData.keyHash P (Str.ofString "_law_kept"), key := Value.str (Str.ofString "_law_kept") 620, val := Value.ref 358 }, { hash := PyData.keyHash P (Str.ofString "_law_seen"), key := Value.str (Str.ofString "_law_seen") 626, val := Value.ref 363 }, { hash := PyData.keyHash P (Str.ofString "_law_item"), key := Value.str (Str.ofString "_law_item") 637, val := Value.ref 370 }, { hash := PyData.keyHash P (Str.ofString "_law_vector"), key := Value.str (Str.ofString "_law_vector") 643, val := Value.ref 375 }] 61 }
noncomputable def obc57at12 (P : Params) : Obj := { cls := Value.none, data := Data.fields #[Value.int 1 0, Value.int 0 0, Value.ref 20, Value.int 5 0, Value.int 0 0, Value.ref 27, Value.int 10 0, Value.int 0 0, Value.ref 34, Value.int 12 0, Value.int 0 0, Value.ref 47, Value.int 21 0, Value.int 0 0, Value.ref 70, Value.int 25 0, Value.int 0 0, Value.ref 77, Value.int 35 0, Value.int 0 0, Value.ref 84, Value.int 39 0, Value.int 0 0, Value.ref 91, Value.int 41 0, Value.int 0 0, Value.ref 98, Value.int 43 0, Value.int 0 0, Value.ref 105, Value.int 45 0, Value.int 0 0, Value.ref 112, Value.int 51 0, Value.int 0 0, Value.ref 119, Value.int 55 0, Value.int 0 0, Value.ref 126, Value.int 59 0, Value.int 0 0, Value.ref 133, Value.int 63 0, Value.int 0 0, Value.ref 140, Value.int 71 0, Value.int 0 0, Value.ref 147, Value.int 82 0, Value.int 0 0, Value.ref 154, Value.int 92 0, Value.int 0 0, Value.ref 161, Value.int 96 0, Value.int 0 0, Value.ref 168, Value.int 98 0, Value.int 0 0, Value.ref 175, Value.int 102 0, Value.int 0 0, Value.ref 182, Value.int 107 0, Value.int 0 0, Value.ref 189, Value.int 113 0, Value.int 0 0, Value.ref 196, Value.int 119 0, Value.int 0 0, Value.ref 203, Value.int 123 0, Value.int 0 0, Value.ref 210, Value.int 134 0, Value.int 0 0, Value.ref 217, Value.int 138 0, Value.int 0 0, Value.ref 224, Value.int 157 0, Value.int 0 0, Value.ref 231, Value.int 170 0, Value.int 0 0, Value.ref 260, Value.int 173 0, Value.int 0 0, Value.ref 265, Value.int 177 0, Value.int 0 0, Value.ref 272, Value.int 181 0, Value.int 0 0, Value.ref 279, Value.int 185 0, Value.int 0 0, Value.ref 286, Value.int 193 0, Value.int 0 0, Value.ref 293, Value.int 203 0, Value.int 0 0, Value.ref 300, Value.int 212 0, Value.int 0 0, Value.ref 307, Value.int 224 0, Value.int 0 0, Value.ref 314, Value.int 244 0, Value.int 0 0, Value.ref 319, Value.int 258 0, Value.int 0 0, Value.ref 324, Value.int 263 0, Value.int 0 0, Value.ref 329, Value.int 269 0, Value.int 0 0, Value.ref 336, Value.int 282 0, Value.int 0 0, Value.ref 343, Value.int 284 0, Value.int 0 0, Value.ref 350, Value.int 290 0, Value.int 0 0, Value.ref 357, Value.int 295 0, Value.int 0 0, Value.ref 362, Value.int 299 0, Value.int 0 0, Value.ref 369, Value.int 311 0, Value.int 0 0, Value.ref 374] }
noncomputable def heap7 (P : Params) : Heap := ⟨Array.mk [boot_o_0 P, boot_o_1 P, k2 P, obc57at3 P, boot_o_4 P, boot_o_5 P, boot_o_6 P, boot_o_7 P, boot_o_8 P, boot_o_9 P, boot_o_10 P, ob11 P, obc57at12 P, ob13 P, ob14 P, ob15 P, ob16 P, ob17 P, ob18 P, ob19 P, k20 P, k21 P, ob22 P, ob23 P, ob24 P, ob25 P, ob26 P, k27 P, k28 P, k29 P, ob30 P, ob31 P, ob32 P, ob33 P, ob34 P, ob35 P, ob36 P, k37 P, k38 P, k39 P, ob40 P, ob41 P, k42 P, ob43 P, ob44 P, ob45 P, ob46 P, ob47 P, ob48 P, ob49 P, ob50 P, ob51 P, ob52 P, ob53 P, k54 P, k55 P, ob56 P, k57 P, k58 P, ob59 P, ob60 P, k61 P, k62 P, k63 P, k64 P, ob65 P, ob66 P, ob67 P, ob68 P, ob69 P, k70 P, k71 P, ob72 P, ob73 P, ob74 P, ob75 P, ob76 P, k77 P, k78 P, ob79 P, ob80 P, ob81 P, ob82 P, ob83 P, k84 P, k85 P, ob86 P, ob87 P, ob88 P, ob89 P, ob90 P, k91 P, k92 P, ob93 P, ob94 P, ob95 P, ob96 P, ob97 P, k98 P, k99 P, ob100 P, ob101 P, ob102 P, ob103 P, ob104 P, k105 P, k106 P, ob107 P, ob108 P, ob109 P, ob110 P, ob111 P, k112 P, k113 P, ob114 P, ob115 P, ob116 P, ob117 P, ob118 P, k119 P, k120 P, ob121 P, ob122 P, ob123 P, ob124 P, ob125 P, k126 P, k127 P, ob128 P, ob129 P, ob130 P, ob131 P, ob132 P, k133 P, k134 P, ob135 P, ob136 P, ob137 P, ob138 P, ob139 P, k140 P, k141 P, ob142 P, ob143 P, ob144 P, ob145 P, ob146 P, k147 P, k148 P, ob149 P, ob150 P, ob151 P, ob152 P, ob153 P, k154 P, k155 P, ob156 P, ob157 P, ob158 P, ob159 P, ob160 P, k161 P, k162 P, ob163 P, ob164 P, ob165 P, ob166 P, ob167 P, k168 P, k169 P, ob170 P, ob171 P, ob172 P, ob173 P, ob174 P, k175 P, k176 P, ob177 P, ob178 P, ob179 P, ob180 P, ob181 P, k182 P, k183 P, ob184 P, ob185 P, ob186 P, ob187 P, ob188 P, k189 P, k190 P, ob191 P, ob192 P, ob193 P, ob194 P, ob195 P, k196 P, k197 P, ob198 P, ob199 P, ob200 P, ob201 P, ob202 P, k203 P, k204 P, ob205 P, ob206 P, ob207 P, ob208 P, ob209 P, k210 P, k211 P, ob212 P, ob213 P, ob214 P, ob215 P, ob216 P, k217 P, k218 P, ob219 P, ob220 P, ob221 P, ob222 P, ob223 P, k224 P, k225 P, ob226 P, ob227 P, ob228 P, ob229 P, ob230 P, ob231 P, ob232 P, k233 P, ob234 P, ob235 P, ob236 P, ob237 P, ob238 P, k239 P, k240 P, ob241 P, ob242 P, ob243 P, ob244 P, ob245 P, k246 P, k247 P, ob248 P, k249 P, k250 P, k251 P, k252 P, ob253 P, ob254 P, ob255 P, ob256 P, ob257 P, ob258 P, ob259 P, k260 P, k261 P, ob262 P, ob263 P, ob264 P, k265 P, k266 P, ob267 P, ob268 P, ob269 P, ob270 P, ob271 P, k272 P, k273 P, ob274 P, ob275 P, ob276 P, ob277 P, ob278 P, k279 P, k280 P, ob281 P, ob282 P, ob283 P, ob284 P, ob285 P, k286 P, k287 P, ob288 P, ob289 P, ob290 P, ob291 P, ob292 P, k293 P, k294 P, ob295 P, ob296 P, ob297 P, ob298 P, ob299 P, k300 P, k301 P, ob302 P, ob303 P, ob304 P, ob305 P, ob306 P, k307 P, k308 P, ob309 P, ob310 P, ob311 P, ob312 P, ob313 P, k314 P, k315 P, ob316 P, ob317 P, ob318 P, k319 P, k320 P, ob321 P, ob322 P, ob323 P, k324 P, k325 P, ob326 P, ob327 P, ob328 P, k329 P, k330 P, ob331 P, ob332 P, ob333 P, ob334 P, ob335 P, k336 P, k337 P, ob338 P, ob339 P, ob340 P, ob341 P, ob342 P, k343 P, k344 P, ob345 P, ob346 P, ob347 P, ob348 P, ob349 P, k350 P, k351 P, ob352 P, ob353 P, ob354 P, ob355 P, ob356 P, k357 P, k358 P, ob359 P, ob360 P, ob361 P, k362 P, k363 P, ob364 P, ob365 P, ob366 P, ob367 P, ob368 P, k369 P, k370 P, ob371 P, ob372 P, ob373 P, k374 P, k375 P], {}⟩
noncomputable def heap8 (P : Params) : Heap := ⟨Array.mk [boot_o_0 P, boot_o_1 P, k2 P, k3 P, boot_o_4 P, boot_o_5 P, boot_o_6 P, boot_o_7 P, boot_o_8 P, boot_o_9 P, boot_o_10 P, ob11 P, ob12 P, ob13 P, ob14 P, ob15 P, ob16 P, ob17 P, ob18 P, ob19 P, k20 P, k21 P, ob22 P, ob23 P, ob24 P, ob25 P, ob26 P, k27 P, k28 P, k29 P, ob30 P, ob31 P, ob32 P, ob33 P, ob34 P, ob35 P, ob36 P, k37 P, k38 P, k39 P, ob40 P, ob41 P, k42 P, ob43 P, ob44 P, ob45 P, ob46 P, ob47 P, ob48 P, ob49 P, ob50 P, ob51 P, ob52 P, ob53 P, k54 P, k55 P, ob56 P, k57 P, k58 P, ob59 P, ob60 P, k61 P, k62 P, k63 P, k64 P, ob65 P, ob66 P, ob67 P, ob68 P, ob69 P, k70 P, k71 P, ob72 P, ob73 P, ob74 P, ob75 P, ob76 P, k77 P, k78 P, ob79 P, ob80 P, ob81 P, ob82 P, ob83 P, k84 P, k85 P, ob86 P, ob87 P, ob88 P, ob89 P, ob90 P, k91 P, k92 P, ob93 P, ob94 P, ob95 P, ob96 P, ob97 P, k98 P, k99 P, ob100 P, ob101 P, ob102 P, ob103 P, ob104 P, k105 P, k106 P, ob107 P, ob108 P, ob109 P, ob110 P, ob111 P, k112 P, k113 P, ob114 P, ob115 P, ob116 P, ob117 P, ob118 P, k119 P, k120 P, ob121 P, ob122 P, ob123 P, ob124 P, ob125 P, k126 P, k127 P, ob128 P, ob129 P, ob130 P, ob131 P, ob132 P, k133 P, k134 P, ob135 P, ob136 P, ob137 P, ob138 P, ob139 P, k140 P, k141 P, ob142 P, ob143 P, ob144 P, ob145 P, ob146 P, k147 P, k148 P, ob149 P, ob150 P, ob151 P, ob152 P, ob153 P, k154 P, k155 P, ob156 P, ob157 P, ob158 P, ob159 P, ob160 P, k161 P, k162 P, ob163 P, ob164 P, ob165 P, ob166 P, ob167 P, k168 P, k169 P, ob170 P, ob171 P, ob172 P, ob173 P, ob174 P, k175 P, k176 P, ob177 P, ob178 P, ob179 P, ob180 P, ob181 P, k182 P, k183 P, ob184 P, ob185 P, ob186 P, ob187 P, ob188 P, k189 P, k190 P, ob191 P, ob192 P, ob193 P, ob194 P, ob195 P, k196 P, k197 P, ob198 P, ob199 P, ob200 P, ob201 P, ob202 P, k203 P, k204 P, ob205 P, ob206 P, ob207 P, ob208 P, ob209 P, k210 P, k211 P, ob212 P, ob213 P, ob214 P, ob215 P, ob216 P, k217 P, k218 P, ob219 P, ob220 P, ob221 P, ob222 P, ob223 P, k224 P, k225 P, ob226 P, ob227 P, ob228 P, ob229 P, ob230 P, ob231 P, ob232 P, k233 P, ob234 P, ob235 P, ob236 P, ob237 P, ob238 P, k239 P, k240 P, ob241 P, ob242 P, ob243 P, ob244 P, ob245 P, k246 P, k247 P, ob248 P, k249 P, k250 P, k251 P, k252 P, ob253 P, ob254 P, ob255 P, ob256 P, ob257 P, ob258 P, ob259 P, k260 P, k261 P, ob262 P, ob263 P, ob264 P, k265 P, k266 P, ob267 P, ob268 P, ob269 P, ob270 P, ob271 P, k272 P, k273 P, ob274 P, ob275 P, ob276 P, ob277 P, ob278 P, k279 P, k280 P, ob281 P, ob282 P, ob283 P, ob284 P, ob285 P, k286 P, k287 P, ob288 P, ob289 P, ob290 P, ob291 P, ob292 P, k293 P, k294 P, ob295 P, ob296 P, ob297 P, ob298 P, ob299 P, k300 P, k301 P, ob302 P, ob303 P, ob304 P, ob305 P, ob306 P, k307 P, k308 P, ob309 P, ob310 P, ob311 P, ob312 P, ob313 P, k314 P, k315 P, ob316 P, ob317 P, ob318 P, k319 P, k320 P, ob321 P, ob322 P, ob323 P, k324 P, k325 P, ob326 P, ob327 P, ob328 P, k329 P, k330 P, ob331 P, ob332 P, ob333 P, ob334 P, ob335 P, k336 P, k337 P, ob338 P, ob339 P, ob340 P, ob341 P, ob342 P, k343 P, k344 P, ob345 P, ob346 P, ob347 P, ob348 P, ob349 P, k350 P, k351 P, ob352 P, ob353 P, ob354 P, ob355 P, ob356 P, k357 P, k358 P, ob359 P, ob360 P, ob361 P, k362 P, k363 P, ob364 P, ob365 P, ob366 P, ob367 P, ob368 P, k369 P, k370 P, ob371 P, ob372 P, ob373 P, k374 P, k375 P, ob376 P, ob377 P, ob378 P, ob379 P, ob380 P, k381 P, k382 P, ob383 P, ob384 P, ob385 P, k386 P, k387 P, ob388 P, ob389 P, ob390 P, ob391 P, ob392 P, k393 P, k394 P, ob395 P, ob396 P, ob397 P, ob398 P, ob399 P, k400 P, k401 P, ob402 P, ob403 P, ob404 P, k405 P, k406 P], {}⟩
abbrev prog0 : Program := PySem.Challenge.rw_nz0482_01.row.toRowW.prog
noncomputable def body0 : List Stmt := behindTheImports prog0
noncomputable def envTop : Env := { scope := prog0.main.scope, locals := mainNs, globals := mainNs, cells := [], code := .ref 13, frame := some 14 }
noncomputable abbrev code0 : Code := .body body0 envTop
abbrev pos0 : Pos := { line := 0, col := 0, endLine := 0, endCol := 0 }
abbrev frm0 : List Frame := [topFrame pos0]
noncomputable abbrev state0 (H : Params → Heap) (tk : Nat) (w : World) (os : OsState) : Shared := ⟨H w.params, Array.mk [], {}, tk, os⟩
theorem bootTop : ∀ w : World, (fencedOpening treeTable prog0 w 4650).map (fun s => (s.heap, s.gens, s.drawn, s.toks)) = some (boot_heap w.params, Array.mk [], boot_drawn, boot_toks) :=
  boot_open (by kernel_rfl) (by decide) (fun _ => rfl)
theorem sizeTop : ∀ w : World, ((boot_heap w.params).isNs mainGlobals && (Array.mk [] : Array GenState).size == 0, (boot_heap w.params).objs.size, (boot_heap w.params).nsMap mainGlobals "__annotations__") = (true, 11, some (Value.ref 6)) := fun w => by kernel_rfl
theorem preTop : ∀ w : World, (fun os => topGo treeTable prog0 w 11 (some (Value.ref 6)) 12 ⟨boot_heap w.params, Array.mk [], boot_drawn, boot_toks, os⟩ (topStub prog0)) = fun os => some (state0 heapB 187 w os, ⟨denote treeTable code0, code0, pos0, frm0⟩) := fun w => by kernel_rfl
theorem blockTop : ∀ w : World, (fun os => segRun treeTable prog0 w 11 (some (Value.ref 6)) 1 1 (state0 heapB 187 w os) (blockOf body0 envTop code0 pos0 frm0)) = fun os => some (.next, state0 heapB 187 w os, code0, pos0) := fun w => by kernel_rfl
noncomputable def grp0 : List Stmt := (body0.drop 0).take 5
abbrev pos1 : Pos := { line := 10, col := 0, endLine := 11, endCol := 8 }
theorem runTop0 : ∀ w : World, (fun os => segRun treeTable prog0 w 11 (some (Value.ref 6)) 1 274 (state0 heapB 187 w os) (piecesOf grp0 envTop code0 pos0 frm0)) = fun os => some (.next, state0 heap0 226 w os, code0, pos1) := fun w => by kernel_rfl
noncomputable def grp1 : List Stmt := (body0.drop 5).take 5
abbrev pos2 : Pos := { line := 19, col := 0, endLine := 19, endCol := 4 }
theorem runTop1 : ∀ w : World, (fun os => segRun treeTable prog0 w 11 (some (Value.ref 6)) 1 291 (state0 heap0 226 w os) (piecesOf grp1 envTop code0 pos1 frm0)) = fun os => some (.next, state0 heap1 262 w os, code0, pos2) := fun w => by kernel_rfl
noncomputable def grp2 : List Stmt := (body0.drop 10).take 10
abbrev pos3 : Pos := { line := 55, col := 0, endLine := 58, endCol := 27 }
theorem runTop2 : ∀ w : World, (fun os => segRun treeTable prog0 w 11 (some (Value.ref 6)) 1 278 (state0 heap1 262 w os) (piecesOf grp2 envTop code0 pos2 frm0)) = fun os => some (.next, state0 heap2 332 w os, code0, pos3) := fun w => by kernel_rfl
noncomputable def grp3 : List Stmt := (body0.drop 20).take 9
abbrev pos4 : Pos := { line := 107, col := 0, endLine := 112, endCol := 14 }
theorem runTop3 : ∀ w : World, (fun os => segRun treeTable prog0 w 11 (some (Value.ref 6)) 1 272 (state0 heap2 332 w os) (piecesOf grp3 envTop code0 pos3 frm0)) = fun os => some (.next, state0 heap3 405 w os, code0, pos4) := fun w => by kernel_rfl
noncomputable def grp4 : List Stmt := (body0.drop 29).take 6
abbrev pos5 : Pos := { line := 156, col := 0, endLine := 156, endCol := 8 }
theorem runTop4 : ∀ w : World, (fun os => segRun treeTable prog0 w 11 (some (Value.ref 6)) 1 165 (state0 heap3 405 w os) (piecesOf grp4 envTop code0 pos4 frm0)) = fun os => some (.next, state0 heap4 452 w os, code0, pos5) := fun w => by kernel_rfl
noncomputable def grp5 : List Stmt := (body0.drop 35).take 3
abbrev pos6 : Pos := { line := 169, col := 0, endLine := 169, endCol := 12 }
theorem runTop5 : ∀ w : World, (fun os => segRun treeTable prog0 w 11 (some (Value.ref 6)) 1 279 (state0 heap4 452 w os) (piecesOf grp5 envTop code0 pos5 frm0)) = fun os => some (.next, state0 heap5 498 w os, code0, pos6) := fun w => by kernel_rfl
noncomputable def grp6 : List Stmt := (body0.drop 38).take 10
abbrev pos7 : Pos := { line := 244, col := 0, endLine := 257, endCol := 47 }
theorem runTop6 : ∀ w : World, (fun os => segRun treeTable prog0 w 11 (some (Value.ref 6)) 1 290 (state0 heap5 498 w os) (piecesOf grp6 envTop code0 pos6 frm0)) = fun os => some (.next, state0 heap6 571 w os, code0, pos7) := fun w => by kernel_rfl
noncomputable def grp7 : List Stmt := (body0.drop 48).take 10
abbrev pos8 : Pos := { line := 311, col := 0, endLine := 327, endCol := 12 }
theorem runTop7 : ∀ w : World, (fun os => segRun treeTable prog0 w 11 (some (Value.ref 6)) 1 271 (state0 heap6 571 w os) (piecesOf grp7 envTop code0 pos7 frm0)) = fun os => some (.next, state0 heap7 644 w os, code0, pos8) := fun w => by kernel_rfl
noncomputable def grp8 : List Stmt := (body0.drop 58).take 5
abbrev pos9 : Pos := { line := 380, col := 0, endLine := 424, endCol := 56 }
theorem runTop8 : ∀ w : World, (fun os => segRun treeTable prog0 w 11 (some (Value.ref 6)) 1 151 (state0 heap7 644 w os) (piecesOf grp8 envTop code0 pos8 frm0)) = fun os => some (.next, state0 heap8 688 w os, code0, pos9) := fun w => by kernel_rfl
theorem bodyTop : body0 = grp0 ++ (grp1 ++ (grp2 ++ (grp3 ++ (grp4 ++ (grp5 ++ (grp6 ++ (grp7 ++ (grp8 ++ ([]))))))))) := by kernel_rfl
theorem finTop : ∀ w : World, (fun os => topRun treeTable prog0 w 11 (some (Value.ref 6)) 2 (state0 heap8 688 w os) ⟨doneF .next, code0, pos9, frm0⟩) = fun os => some (state0 heap8 688 w os) := fun w => by kernel_rfl
theorem runTop (w : World) (os : OsState) : topRun treeTable prog0 w 11 (some (Value.ref 6)) (12 + (1 + (274 + (291 + (278 + (272 + (165 + (279 + (290 + (271 + (151 + (2)))))))))))) ⟨boot_heap w.params, Array.mk [], boot_drawn, boot_toks, os⟩ (topStub prog0) = some (state0 heap8 688 w os) :=
  go_top (congrFun (preTop w) os) (piece_block (congrFun (blockTop w) os) ((congrArg (fun l => topRun treeTable prog0 w 11 (some (Value.ref 6)) (274 + (291 + (278 + (272 + (165 + (279 + (290 + (271 + (151 + (2)))))))))) (state0 heapB 187 w os) (restOf l envTop code0 pos0 frm0)) bodyTop).trans
    (piece_app (congrFun (runTop0 w) os) (piece_app (congrFun (runTop1 w) os) (piece_app (congrFun (runTop2 w) os) (piece_app (congrFun (runTop3 w) os) (piece_app (congrFun (runTop4 w) os) (piece_app (congrFun (runTop5 w) os) (piece_app (congrFun (runTop6 w) os) (piece_app (congrFun (runTop7 w) os) (piece_app (congrFun (runTop8 w) os) (piece_nil (congrFun (finTop w) os)))))))))))))
theorem look1 (w : World) : (fun os => (staticsOk (importedModules prog0.main.body) (boot_heap w.params) (heap8 w.params) && namesBound prog0 (heap8 w.params) && gensDone (state0 heap8 688 w os) && laidKept (boot_heap w.params) (heap8 w.params))) = fun _ => true := by kernel_rfl
theorem look2 (w : World) : (fun os => (openSeen q0 loose0 (importedModules prog0.main.body) (fun s => xlAt q0 [] s && recOk PySem.Challenge.rw_nz0482_01.row.toRowW.records s) true (state0 heap8 688 w os), (kmHook frag fragAt frag_at [403]).obs (state0 heap8 688 w os))) = fun _ => (openGood q0 loose0, (kmHook frag fragAt frag_at [403]).val w) := by kernel_rfl
theorem leftO : LeftO PySem.Challenge.rw_nz0482_01.row.toRowW.prog q0 loose0 (fun s => xlAt q0 [] s && recOk PySem.Challenge.rw_nz0482_01.row.toRowW.records s) (kmHook frag fragAt frag_at [403]).obs (kmHook frag fragAt frag_at [403]).val 4650 :=
  LeftO.of_pieces bootTop sizeTop runTop (by decide) fun w => funext fun os => looks_pair (congrFun (look1 w) os) (congrFun (look2 w) os)
theorem look_nr : namesResolve PySem.Challenge.rw_nz0482_01.row.prog = true := by kernel_rfl
theorem look_nm : namesMeet PySem.Challenge.rw_nz0482_01.row.prog PySem.Challenge.rw_nz0482_01.row.prog.main.body (fun _ n => attrL n) = true := by kernel_rfl
theorem look_sre : sreFenced PySem.Challenge.rw_nz0482_01.row.prog.main = true := by kernel_rfl
theorem looks0 : looksOpen PySem.Challenge.rw_nz0482_01.row.prog = true := by
  unfold looksOpen
  repeat' with_reducible refine look_both ?_ ?_
  all_goals first | with_reducible exact look_nr | with_reducible exact look_nm | with_reducible exact look_sre | kernel_rfl
theorem said0 : PySem.Challenge.rw_nz0482_01.row.wellSaid = true := by
  unfold OpenRow.wellSaid OpenRow.partSaid
  repeat' with_reducible refine look_both ?_ ?_
  all_goals first | with_reducible exact looks0 | kernel_rfl
theorem look_above : namesMeet PySem.Challenge.rw_nz0482_01.prog PySem.Challenge.rw_nz0482_01.above (fun _ n => !PySem.Challenge.rw_nz0482_01.own.contains n) = true := by kernel_rfl
theorem look_foot : namesMeet PySem.Challenge.rw_nz0482_01.prog PySem.Challenge.rw_nz0482_01.footing (fun sc n => sc.kind == .module || sc.names.lookup n != some .globalExplicit) = true := by kernel_rfl
theorem said : PySem.Challenge.rw_nz0482_01.wellSaid = true := by
  unfold OpenLaw.wellSaid
  repeat' with_reducible refine look_both ?_ ?_
  all_goals first | with_reducible exact said0 | with_reducible exact look_above | with_reducible exact look_foot | kernel_rfl
theorem law_def : defOf q0 PySem.Challenge.rw_nz0482_01.row.name = some (lawD, []) := by kernel_rfl
theorem law_the : PySem.Challenge.rw_nz0482_01.row.prog.theDef PySem.Challenge.rw_nz0482_01.row.name = some (lawD.params, lawD.body, lawD.scope) := by kernel_rfl
theorem promised : PySem.Challenge.rw_nz0482_01.row.toRowW.promised := by w_witness2
abbrev TheWalk : Prop := WalkO q0 loose0 (XL q0 []) (kmHook frag fragAt frag_at [403]).says PySem.Challenge.rw_nz0482_01.row.toRowW lawD [] (fun f vs => PySem.call f vs)
theorem head (walk : TheWalk) : PySem.Challenge.rw_nz0482_01.Holds :=
  holds_law said fun k1 => holds_open leftO (kmHook frag fragAt frag_at [403]).of (kmHook frag fragAt frag_at [403]).keeps (fun s e => xl_of s (Bool.and_eq_true_iff.mp e).1) XL.keeps law_def law_the (by rfl) (fun s e => recFacts_of (Bool.and_eq_true_iff.mp e).2) (by rfl) k1 (by decide +kernel) ⟨rfl, rfl, rfl, rfl, rfl, by decide +kernel⟩ promised walk
end
section
/-- deep data -/
inductive D where
  | none
  | bool (b : Bool)
  | int (i : Int)
  | str (x : Str)
  | tup (ds : List D)
  | lst (ds : List D)
  | dict (ks : List Str) (ds : List D)
  | inst (C : Addr) (ks : List Str) (ds : List D)
  | rng (a b : Int)
  | mut (a : Addr)
  | glob (v : Value)

abbrev View := Addr → Option Obj

/-- a dict's entries: written keys, the hash of each -/
def Keyed (P : Params) : List DictEntry → List Str → Prop
  | [], [] => True
  | e :: es, k :: ks => (∃ t, e.key = .str k t) ∧ e.hash = PyData.keyHash P k ∧ Keyed P es ks
  | _, _ => False

mutual
inductive Rp (P : Params) (V : View) : Value → D → Prop
  | none : Rp P V .none .none
  | bool (b : Bool) : Rp P V (.bool b) (.bool b)
  | int (i : Int) (t : Tok) : Rp P V (.int i t) (.int i)
  | str (x : Str) (t : Tok) : Rp P V (.str x t) (.str x)
  | tup {a : Addr} {o : Obj} {vs : List Value} {n : Nat} {ds : List D} : V a = some o → o.cls = .type "tuple" → o.data = .seq vs.toArray n → RpAll P V vs ds → Rp P V (.ref a) (.tup ds)
  | lst {a : Addr} {vs : List Value} {n : Nat} {ds : List D} : V a = some (listOf vs.toArray n) → RpAll P V vs ds → Rp P V (.ref a) (.lst ds)
  | dict {a : Addr} {es : List DictEntry} {n : Nat} {ks : List Str} {ds : List D} : (a == sysModules) = false → V a = some (dictOf es n) → Keyed P es ks → RpAll P V (es.map (·.val)) ds → Rp P V (.ref a) (.dict ks ds)
  | inst {x dx C : Addr} {es : List DictEntry} {n : Nat} {ks : List Str} {ds : List D} : V x = some (instObj C dx) → V dx = some (dictOf es n) → Keyed P es ks → RpAll P V (es.map (·.val)) ds → Rp P V (.ref x) (.inst C ks ds)
  | rng {r : Addr} {a b : Int} {t u v : Tok} : V r = some { cls := .type "range", dict := none, data := .fields #[.int a t, .int b u, .int 1 v], slots := #[] } → Rp P V (.ref r) (.rng a b)
  | mut (a : Addr) : Rp P V (.ref a) (.mut a)
  | glob (v : Value) : Rp P V v (.glob v)
inductive RpAll (P : Params) (V : View) : List Value → List D → Prop
  | nil : RpAll P V [] []
  | cons {v : Value} {vs : List Value} {d : D} {ds : List D} : Rp P V v d → RpAll P V vs ds → RpAll P V (v :: vs) (d :: ds)
end

/-- the class of the refusals -/
def rc : Addr := 58
/-- an exception of the text's own, or a traceback: what a raise turns -/
def Odd (o : Obj) : Prop := (∃ vs, o.data = .fields vs) ∧ (o.cls = .ref rc ∨ o.cls = .type "traceback")
theorem not_odd {o : Obj} (h : ∀ vs, o.data ≠ .fields vs) : ¬ Odd o := fun ⟨⟨vs, e⟩, _⟩ => h vs e

theorem Rp.mono {P : Params} {V W : View} (k : ∀ a o, V a = some o → ¬ Odd o → W a = some o) {v : Value} {d : D} (r : Rp P V v d) : Rp P W v d :=
  Rp.rec (motive_1 := fun v d _ => Rp P W v d) (motive_2 := fun vs ds _ => RpAll P W vs ds) .none .bool .int .str
    (fun h c e _ r => .tup (k _ _ h (not_odd fun ws q => by rw [e] at q; cases q)) c e r)
    (fun h _ r => .lst (k _ _ h (not_odd fun ws q => by cases q)) r)
    (fun z h q _ r => .dict z (k _ _ h (not_odd fun ws q => by cases q)) q r)
    (fun h h2 q _ r => .inst (k _ _ h (not_odd fun ws q => by cases q)) (k _ _ h2 (not_odd fun ws q => by cases q)) q r)
    (fun h => .rng (k _ _ h fun ⟨_, q⟩ => q.elim (fun q => by cases q) (fun q => by simp at q)))
    .mut .glob .nil (fun _ _ r rs => .cons r rs) r
theorem RpAll.mono {P : Params} {V W : View} (k : ∀ a o, V a = some o → ¬ Odd o → W a = some o) {vs : List Value} {ds : List D} (r : RpAll P V vs ds) : RpAll P W vs ds :=
  RpAll.rec (motive_1 := fun _ _ _ => True) (motive_2 := fun vs ds _ => RpAll P W vs ds) trivial (fun _ => trivial) (fun _ _ => trivial) (fun _ _ => trivial) (fun _ _ _ _ _ => trivial) (fun _ _ _ => trivial) (fun _ _ _ _ _ => trivial) (fun _ _ _ _ _ => trivial) (fun _ => trivial) (fun _ => trivial) (fun _ => trivial)
    .nil (fun r _ _ rs => .cons (r.mono k) rs) r
inductive TupI (P : Params) (V : View) (v : Value) (ds : List D) : Prop
  | mk (a : Addr) (o : Obj) (vs : List Value) (n : Nat) : v = .ref a → V a = some o → o.cls = .type "tuple" → o.data = .seq vs.toArray n → RpAll P V vs ds → TupI P V v ds
inductive LstI (P : Params) (V : View) (v : Value) (ds : List D) : Prop
  | mk (a : Addr) (vs : List Value) (n : Nat) : v = .ref a → V a = some (listOf vs.toArray n) → RpAll P V vs ds → LstI P V v ds
inductive DictI (P : Params) (V : View) (v : Value) (ks : List Str) (ds : List D) : Prop
  | mk (a : Addr) (es : List DictEntry) (n : Nat) : v = .ref a → (a == sysModules) = false → V a = some (dictOf es n) → Keyed P es ks → RpAll P V (es.map (·.val)) ds → DictI P V v ks ds
inductive InstI (P : Params) (V : View) (v : Value) (C : Addr) (ks : List Str) (ds : List D) : Prop
  | mk (x dx : Addr) (es : List DictEntry) (n : Nat) : v = .ref x → V x = some (instObj C dx) → V dx = some (dictOf es n) → Keyed P es ks → RpAll P V (es.map (·.val)) ds → InstI P V v C ks ds
inductive RngI (V : View) (v : Value) (a b : Int) : Prop
  | mk (r : Addr) (t u w : Tok) : v = .ref r → V r = some { cls := .type "range", dict := none, data := .fields #[.int a t, .int b u, .int 1 w], slots := #[] } → RngI V v a b
/-- a representation, seen from the datum -/
def Inv (P : Params) (V : View) (v : Value) : D → Prop
  | .none => v = .none
  | .bool b => v = .bool b
  | .int i => ∃ t, v = .int i t
  | .str x => ∃ t, v = .str x t
  | .tup ds => TupI P V v ds
  | .lst ds => LstI P V v ds
  | .dict ks ds => DictI P V v ks ds
  | .inst C ks ds => InstI P V v C ks ds
  | .rng a b => RngI V v a b
  | .mut a => v = .ref a
  | .glob w => v = w
theorem Rp.inv {P : Params} {V : View} {v : Value} {d : D} (r : Rp P V v d) : Inv P V v d := by
  cases r with
  | none => rfl
  | bool b => rfl
  | int i t => exact ⟨t, rfl⟩
  | str i t => exact ⟨t, rfl⟩
  | tup h c e r => exact ⟨_, _, _, _, rfl, h, c, e, r⟩
  | lst h r => exact ⟨_, _, _, rfl, h, r⟩
  | dict z h q r => exact ⟨_, _, _, rfl, z, h, q, r⟩
  | inst h h2 q r => exact ⟨_, _, _, _, rfl, h, h2, q, r⟩
  | rng h => exact ⟨_, _, _, _, rfl, h⟩
  | «mut» a => rfl
  | glob v => rfl
inductive ConsI (P : Params) (V : View) (vs : List Value) (d : D) (ds : List D) : Prop
  | mk (v : Value) (ws : List Value) : vs = v :: ws → Rp P V v d → RpAll P V ws ds → ConsI P V vs d ds
def Invs (P : Params) (V : View) (vs : List Value) : List D → Prop
  | [] => vs = []
  | d :: ds => ConsI P V vs d ds
theorem RpAll.inv {P : Params} {V : View} {vs : List Value} {ds : List D} (r : RpAll P V vs ds) : Invs P V vs ds := by
  cases r with
  | nil => rfl
  | cons r rs => exact ⟨_, _, rfl, r, rs⟩
theorem RpAll.one {P : Params} {V : View} {vs : List Value} {d : D} (r : RpAll P V vs [d]) : ∃ v, vs = [v] ∧ Inv P V v d := by
  obtain ⟨v, ws, rfl, h, r1⟩ := r.inv
  obtain rfl := r1.inv
  exact ⟨v, rfl, h.inv⟩
inductive TwoI (P : Params) (V : View) (vs : List Value) (d e : D) : Prop
  | mk (v w : Value) : vs = [v, w] → Rp P V v d → Rp P V w e → TwoI P V vs d e
theorem RpAll.two {P : Params} {V : View} {vs : List Value} {d e : D} (r : RpAll P V vs [d, e]) : TwoI P V vs d e := by
  obtain ⟨v, ws, rfl, h, r1⟩ := r.inv
  obtain ⟨w, ws', rfl, h', r2⟩ := r1.inv
  obtain rfl := r2.inv
  exact ⟨v, w, rfl, h, h'⟩

theorem RpAll.length {P : Params} {V : View} {vs : List Value} {ds : List D} (h : RpAll P V vs ds) : vs.length = ds.length := by
  induction ds generalizing vs with
  | nil => obtain rfl := h.inv; rfl
  | cons d ds ih => obtain ⟨v, ws, rfl, _, r⟩ := h.inv; exact congrArg (· + 1) (ih r)
theorem RpAll.append {P : Params} {V : View} {vs ws : List Value} {ds es : List D} (h : RpAll P V vs ds) (k : RpAll P V ws es) : RpAll P V (vs ++ ws) (ds ++ es) := by
  induction ds generalizing vs with
  | nil => obtain rfl := h.inv; exact k
  | cons d ds ih => obtain ⟨v, us, rfl, a, r⟩ := h.inv; exact .cons a (ih r)
theorem RpAll.get {P : Params} {V : View} {vs : List Value} {ds : List D} (h : RpAll P V vs ds) {k : Nat} {d : D} (hk : ds[k]? = some d) : ∃ v, vs[k]? = some v ∧ Rp P V v d := by
  induction ds generalizing vs k with
  | nil => cases hk
  | cons e ds ih =>
    obtain ⟨v, us, rfl, a, r⟩ := h.inv
    cases k with
    | zero => exact ⟨v, rfl, Option.some.inj hk ▸ a⟩
    | succ k => exact ih r hk

/-- the mutable objects -/
inductive AObj where
  | lst (ds : List D)
  | dict (ks : List Str) (ds : List D)
  | inst (C dx : Addr)
  | tab (ps : Array Value)
abbrev Store := Addr → Option AObj
def Store.set (σ : Store) (a : Addr) (o : AObj) : Store := fun b => if b = a then some o else σ b
def Store.del (σ : Store) (a : Addr) : Store := fun b => if b = a then none else σ b
abbrev Rho := List (Str × D)

structure Ctx where
  prog : Program
  w : World
  base : Heap
  A : Around
  envs : List Env
  hid : List Addr
  fuel : Nat

/-- the frames -/
abbrev Ctx.fs (C : Ctx) : List Addr := C.envs.filterMap (·.frame)
/-- the written part of the top -/
noncomputable abbrev Ctx.K (C : Ctx) : Frag := frag C.w.params

open Classical in
noncomputable def vw (hid : List Addr) (σ : Store) (h : Heap) : View := fun a => if a ∈ hid ∨ (σ a).isSome then none else h.get? a
theorem vw_some {hid : List Addr} {σ : Store} {h : Heap} {a : Addr} {o : Obj} : vw hid σ h a = some o ↔ a ∉ hid ∧ σ a = none ∧ h.get? a = some o := by
  unfold vw
  by_cases q : a ∈ hid ∨ (σ a).isSome = true
  · rw [if_pos q]
    constructor
    · intro e; cases e
    · rintro ⟨h1, h2, _⟩
      rcases q with q | q
      · exact absurd q h1
      · rw [h2] at q; cases q
  · rw [if_neg q]
    constructor
    · intro e
      refine ⟨fun m => q (.inl m), ?_, e⟩
      cases r : σ a with
      | none => rfl
      | some _ => exact absurd (.inr (by rw [r]; rfl)) q
    · exact fun e => e.2.2

def Mt (P : Params) (V : View) (h : Heap) (a : Addr) : AObj → Prop
  | .lst ds => ∃ vs n, h.get? a = some (listOf vs n) ∧ RpAll P V vs.toList ds
  | .dict ks ds => (a == sysModules) = false ∧ ∃ es n, h.get? a = some (dictOf es n) ∧ Keyed P es ks ∧ RpAll P V (es.map (·.val)) ds
  | .inst C dx => h.get? a = some (instObj C dx)
  | .tab ps => h.get? a = some (tabObj ps)

structure Wd (K : Frag) (base : Heap) : Prop where
  X : K.In base
  g : ∃ mg, base.Ns mainGlobals mg
  b : ∃ mb, base.Ns builtinsNs mb ∧ ∀ x : Str, x ≠ "__name__" → mb x = bootBuiltins x
  nolimit : base.NoLimit
  bm : ∃ mg bm ob, base.Ns mainGlobals mg ∧ mg "__builtins__" = some (.ref bm) ∧ bm ≠ builtinsNs ∧ base.get? bm = some ob ∧ ob.cls = .type "module" ∧ ob.dict = some builtinsNs ∧ ob.data = .plain

structure COk (C : Ctx) : Prop where
  wd : Wd C.K C.base
  handled : C.A.handled = none
  stack : C.A.frames = some C.envs
  hids : ∀ a ∈ C.envs.filterMap (·.frame), a ∈ C.hid
  depth : C.A.depth + C.fuel < recursionLimit
  units : C.A.units + 8 * C.fuel + 100 < cLine

structure Hg (C : Ctx) (σ : Store) (h : Heap) : Prop where
  ok : COk C
  stays : C.base.StaysIn h
  off : ∀ a o, C.base.get? a = some o → a ∉ C.hid ∧ σ a = none
  frames : h.FunFrames C.base C.envs
  low : ∀ a ∈ C.hid, ∃ o, h.get? a = some o
  at_ : ∀ a o, σ a = some o → a ∉ C.hid ∧ Mt C.w.params (vw C.hid σ h) h a o

/-- what a step does to the heap -/
structure Stp (own hid fs : List Addr) (σ : Store) (h : Heap) (σ' : Store) (h' : Heap) : Prop where
  sub : ∀ a ∈ own, a ∈ hid
  subf : ∀ a ∈ fs, a ∈ hid
  keep : ∀ a o, h.get? a = some o → ¬ Odd o → σ a = none → a ∉ own → (a ∉ fs → h'.get? a = some o) ∧ (∃ sl, h'.get? a = some { o with slots := sl })
  fresh : ∀ a, σ' a ≠ none → a ∉ hid ∧ (σ a ≠ none ∨ h.get? a = none)
  there : ∀ a o, h.get? a = some o → ∃ o', h'.get? a = some o'

theorem Stp.refl {hid fs : List Addr} {σ : Store} {h : Heap} (hσ : ∀ a, σ a ≠ none → a ∉ hid) (hfs : ∀ a ∈ fs, a ∈ hid) : Stp [] hid fs σ h σ h :=
  ⟨(fun _ h => nomatch h), hfs, fun _ o e _ _ _ => ⟨fun _ => e, o.slots, e⟩, fun a e => ⟨hσ a e, .inl e⟩, fun _ o e => ⟨o, e⟩⟩
theorem Stp.gone {own hid fs : List Addr} {σ σ' : Store} {h h' : Heap} (x : Stp own hid fs σ h σ' h') {a : Addr} {o : Obj} (e : h.get? a = some o) (hs : σ a = none) : σ' a = none := by
  cases q : σ' a with
  | none => rfl
  | some u =>
    rcases (x.fresh a (by rw [q]; simp)).2 with q' | q'
    · exact absurd hs q'
    · rw [e] at q'; cases q'
theorem odd_slots {o : Obj} {sl : Array (Option Value)} (h : ¬ Odd o) : ¬ Odd { o with slots := sl } := h
theorem Stp.trans {own hid fs : List Addr} {σ σ₁ σ₂ : Store} {h h₁ h₂ : Heap} (x : Stp own hid fs σ h σ₁ h₁) (y : Stp own hid fs σ₁ h₁ σ₂ h₂) : Stp own hid fs σ h σ₂ h₂ := by
  refine ⟨x.sub, x.subf, fun a o e hd hs ho => ?_, fun a e => ?_, fun a o e => ?_⟩
  · have hs₁ := x.gone e hs
    obtain ⟨k1, sl, k2⟩ := x.keep a o e hd hs ho
    obtain ⟨_, sl₂, k3⟩ := y.keep a _ k2 (odd_slots hd) hs₁ ho
    exact ⟨fun hh => (y.keep a _ (k1 hh) hd hs₁ ho).1 hh, sl₂, k3⟩
  · obtain ⟨e1, e2⟩ := y.fresh a e
    refine ⟨e1, ?_⟩
    rcases e2 with e2 | e2
    · exact (x.fresh a e2).2
    · cases q : h.get? a with
      | none => exact .inr rfl
      | some o =>
        obtain ⟨o', k⟩ := x.there a o q
        rw [e2] at k; cases k
  · obtain ⟨o₁, e₁⟩ := x.there a o e
    exact y.there a o₁ e₁
theorem Stp.weak {own own' hid fs : List Addr} {σ σ' : Store} {h h' : Heap} (x : Stp own hid fs σ h σ' h') (ho : ∀ a ∈ own, a ∈ own') (hh : ∀ a ∈ own', a ∈ hid) : Stp own' hid fs σ h σ' h' :=
  ⟨hh, x.subf, fun a o e hd hs hn => x.keep a o e hd hs fun q => hn (ho a q), x.fresh, x.there⟩
theorem Stp.view {own hid fs : List Addr} {σ σ' : Store} {h h' : Heap} (x : Stp own hid fs σ h σ' h') : ∀ a o, vw hid σ h a = some o → ¬ Odd o → vw hid σ' h' a = some o := by
  intro a o e hd
  obtain ⟨e1, e2, e3⟩ := vw_some.mp e
  exact vw_some.mpr ⟨e1, x.gone e3 e2, (x.keep a o e3 hd e2 fun q => e1 (x.sub a q)).1 fun q => e1 (x.subf a q)⟩

/-- a name read in env -/
def Rds (env : Env) (h : Heap) (x : Str) (v : Value) : Prop :=
  (env.kindOf x = some .local ∧ ∃ m, h.Ns env.locals m ∧ m x = some v) ∨
  ((env.kindOf x = some .cell ∨ (env.kindOf x = some .free ∧ (x == ("__classdict__" : Str)) = false)) ∧ ∃ c, env.cells.lookup x = some c ∧ h.IsCell c (some v))
/-- the frame's own writable places -/
def ownOf (env : Env) : List Addr := env.locals :: env.cells.map (·.2)

structure He (P : Params) (hid : List Addr) (env : Env) (ρ : Rho) (V : View) (h : Heap) : Prop where
  kind : env.scope.kind = .function
  globals : env.globals = mainGlobals
  ins : ∀ a ∈ ownOf env, a ∈ hid
  ns : ∃ m, h.Ns env.locals m
  cell : ∀ x c, env.cells.lookup x = some c → ∃ v, h.IsCell c v
  inj : ∀ x y c, env.cells.lookup x = some c → env.cells.lookup y = some c → x = y
  rd : ∀ x d, ρ.lookup x = some d → ∃ v, Rp P V v d ∧ Rds env h x v

theorem ns_slots {h h' : Heap} {a : Addr} {m : Str → Option Value} (n : h.Ns a m) (k : ∀ o, h.get? a = some o → ¬ Odd o → ∃ sl, h'.get? a = some { o with slots := sl }) : h'.Ns a m := by
  obtain ⟨o, es, ep, ho, hd, r⟩ := n
  obtain ⟨sl, e⟩ := k o ho (not_odd fun vs q => by rw [hd] at q; cases q)
  exact ⟨_, es, ep, e, hd, r⟩
theorem cell_slots {h h' : Heap} {a : Addr} {v : Option Value} (n : h.IsCell a v) (k : ∀ o, h.get? a = some o → ¬ Odd o → ∃ sl, h'.get? a = some { o with slots := sl }) : h'.IsCell a v := by
  obtain ⟨o, ho, hd⟩ := n
  obtain ⟨sl, e⟩ := k o ho (not_odd fun vs q => by rw [hd] at q; cases q)
  exact ⟨_, e, hd⟩
theorem lookup_mem {x : Str} {c : Addr} : ∀ {l : List (Str × Addr)}, l.lookup x = some c → c ∈ l.map (·.2)
  | [], e => by cases e
  | (y, b) :: r, e => by
    rw [List.lookup_cons] at e
    split at e
    · cases e; simp
    · exact List.mem_cons_of_mem _ (lookup_mem e)

/-- the locals stand after an expression's step -/
theorem He.step {P : Params} {hid fs : List Addr} {env : Env} {ρ : Rho} {σ σ' : Store} {h h' : Heap} (e : He P hid env ρ (vw hid σ h) h) (x : Stp [] hid fs σ h σ' h') (hσ : ∀ a, σ a ≠ none → a ∉ hid) : He P hid env ρ (vw hid σ' h') h' := by
  have sl : ∀ a ∈ hid, ∀ o, h.get? a = some o → ¬ Odd o → ∃ sl, h'.get? a = some { o with slots := sl } := fun a ha o ho hd => by
    refine (x.keep a o ho hd ?_ (by simp)).2
    cases q : σ a with
    | none => rfl
    | some u => exact absurd ha (hσ a (by rw [q]; simp))
  have hL : env.locals ∈ hid := e.ins _ (.head _)
  have hc : ∀ y c, env.cells.lookup y = some c → c ∈ hid := fun y c hy => e.ins c (.tail _ (lookup_mem hy))
  refine ⟨e.kind, e.globals, e.ins, ?_, fun y c hy => ?_, e.inj, fun y d hy => ?_⟩
  · obtain ⟨m, n⟩ := e.ns
    exact ⟨m, ns_slots n (sl _ hL)⟩
  · obtain ⟨v, n⟩ := e.cell y c hy
    exact ⟨v, cell_slots n (sl _ (hc y c hy))⟩
  · obtain ⟨v, r, n⟩ := e.rd y d hy
    refine ⟨v, r.mono x.view, ?_⟩
    rcases n with ⟨n1, m, n2, n3⟩ | ⟨n1, c, n2, n3⟩
    · exact .inl ⟨n1, m, ns_slots n2 (sl _ hL), n3⟩
    · exact .inr ⟨n1, c, n2, cell_slots n3 (sl _ (hc y c n2))⟩

def Upto (s s' : Shared) : Prop := s' = { s with heap := s'.heap, toks := s'.toks }
theorem Upto.refl (s : Shared) : Upto s s := rfl
theorem Upto.trans {s s₁ s₂ : Shared} (x : Upto s s₁) (y : Upto s₁ s₂) : Upto s s₂ := by
  unfold Upto at *
  rw [y, x]
theorem Upto.mk' {s : Shared} {h : Heap} {tk : Nat} : Upto s { s with heap := h, toks := tk } := rfl

inductive TbAt (C : Ctx) (σ : Store) (h : Heap) (a : Addr) (tb : Value) : Prop
  | mk (T : Addr) (oT : Obj) (ts : Array Value) : tb = .ref T → C.base.get? T = none → T ≠ a → h.get? T = some oT → oT.cls = .type "traceback" → oT.data = .fields ts → 3 < ts.size → T ∉ C.hid → σ T = none → TbAt C σ h a tb
inductive Raised (C : Ctx) (σ : Store) (h : Heap) (e : Value) (msg : Str) : Prop
  | mk (hg : Hg C σ h) (a : Addr) (oe : Obj) (dx : Addr) (vs : Array Value) (tb : Value) (es : List DictEntry) (n : Nat) (t : Tok) :
    e = .ref a → h.get? a = some oe → oe.cls = .ref rc → oe.dict = some dx → oe.data = .fields vs → vs[1]? = some tb →
    C.base.get? a = none → σ a = none → a ∉ C.hid →
    h.get? dx = some (dictOf es n) → getL "message" es = some (some (.str msg t)) → C.base.get? dx = none → σ dx = none → dx ∉ C.hid →
    (tb = .none ∨ TbAt C σ h a tb) → Raised C σ h e msg
theorem Raised.hg {C : Ctx} {σ : Store} {h : Heap} {e : Value} {msg : Str} (R : Raised C σ h e msg) : Hg C σ h := by cases R; assumption

abbrev XP := Str → Store → Prop
inductive PostX (C : Ctx) (own : List Addr) (σ : Store) (s : Shared) (X : XP) (e : Value) (s' : Shared) : Prop
  | mk (msg : Str) (σ' : Store) : Upto s s' → Raised C σ' s'.heap e msg → Stp own C.hid C.fs σ s.heap σ' s'.heap → X msg σ' → PostX C own σ s X e s'
inductive PostV {α δ : Type} (C : Ctx) (R : View → α → δ → Prop) (σ : Store) (s : Shared) (Q : δ → Store → Prop) (v : α) (s' : Shared) : Prop
  | mk (d : δ) (σ' : Store) : Upto s s' → Hg C σ' s'.heap → Stp [] C.hid C.fs σ s.heap σ' s'.heap → R (vw C.hid σ' s'.heap) v d → Q d σ' → PostV C R σ s Q v s'
/-- what stands behind a call or an expression -/
abbrev Post (C : Ctx) (σ : Store) (s : Shared) (Q : D → Store → Prop) := PostV C (Rp C.w.params) σ s Q
/-- a tree of any kind, from the store σ -/
structure Jd {α δ : Type} (C : Ctx) (R : View → α → δ → Prop) (t : Sem α) (env : Env) (ρ : Rho) (σ : Store) (Q : δ → Store → Prop) (X : XP) : Prop where
  out : ∀ s, Hg C σ s.heap → He C.w.params C.hid env ρ (vw C.hid σ s.heap) s.heap →
    wpAny (model C.prog C.w) C.A t (PostV C R σ s Q) (PostX C [] σ s X) s
abbrev Ev (C : Ctx) (env : Env) (ρ : Rho) (e : Expr) := Jd C (Rp C.w.params) (eval e env) env ρ
abbrev Evs (C : Ctx) (env : Env) (ρ : Rho) (pos : Pos) (es : List Expr) := Jd C (RpAll C.w.params) (spliced (backTo pos (starEach es env))) env ρ
abbrev Tst (C : Ctx) (env : Env) (ρ : Rho) (e : Expr) := Jd C (fun _ (b : Bool) (d : Bool) => b = d) (isTrue e env (eval e env)) env ρ

theorem Jd.mono {α δ : Type} {C : Ctx} {R : View → α → δ → Prop} {t : Sem α} {env : Env} {ρ : Rho} {σ : Store} {Q Q' : δ → Store → Prop} {X X' : XP} (h : Jd C R t env ρ σ Q X) (hq : ∀ d σ', Q d σ' → Q' d σ') (hx : ∀ m σ', X m σ' → X' m σ') : Jd C R t env ρ σ Q' X' := by
  refine ⟨fun s hs he => ?_⟩
  refine wpAny_mono (h.out s hs he) ?_ ?_
  · rintro v s' ⟨d, σ', a, b, c, r, q⟩
    exact ⟨d, σ', a, b, c, r, hq d σ' q⟩
  · rintro e s' ⟨m, σ', a, b, c, q⟩
    exact ⟨m, σ', a, b, c, hx m σ' q⟩

theorem Hg.hσ {C : Ctx} {σ : Store} {h : Heap} (x : Hg C σ h) : ∀ a, σ a ≠ none → a ∉ C.hid := fun a e => by
  cases q : σ a with
  | none => exact absurd q e
  | some o => exact (x.at_ a o q).1

/-- the workhorse: one tree behind another -/
theorem Jd.seq {α δ : Type} {C : Ctx} {R : View → α → δ → Prop} {t : Sem α} {env : Env} {ρ : Rho} {σ : Store} {X : XP} {s s₀ : Shared} {σ₀ : Store} {P : α → Shared → Prop}
    (hs : Hg C σ s.heap) (he : He C.w.params C.hid env ρ (vw C.hid σ s.heap) s.heap) (hup : Upto s₀ s) (hst : Stp [] C.hid C.fs σ₀ s₀.heap σ s.heap)
    (h : Jd C R t env ρ σ (fun d σ₁ => ∀ (v : α) (s₁ : Shared), Upto s₀ s₁ → Hg C σ₁ s₁.heap → He C.w.params C.hid env ρ (vw C.hid σ₁ s₁.heap) s₁.heap → Stp [] C.hid C.fs σ₀ s₀.heap σ₁ s₁.heap → Stp [] C.hid C.fs σ s.heap σ₁ s₁.heap → R (vw C.hid σ₁ s₁.heap) v d → P v s₁) X) :
    wpAny (model C.prog C.w) C.A t P (PostX C [] σ₀ s₀ X) s := by
  refine wpAny_mono (h.out s hs he) ?_ ?_
  · rintro v s₁ ⟨d, σ₁, u, g, st, r, q⟩
    exact q v s₁ (hup.trans u) g (he.step st hs.hσ) (hst.trans st) st r
  · rintro e s₁ ⟨m, σ₁, u, g, st, q⟩
    exact ⟨m, σ₁, hup.trans u, g, hst.trans st, q⟩
/-- the last tree -/
theorem Jd.last {α δ : Type} {C : Ctx} {R : View → α → δ → Prop} {t : Sem α} {env : Env} {ρ : Rho} {σ : Store} {Q : δ → Store → Prop} {X : XP} {s s₀ : Shared} {σ₀ : Store}
    (hs : Hg C σ s.heap) (he : He C.w.params C.hid env ρ (vw C.hid σ s.heap) s.heap) (hup : Upto s₀ s) (hst : Stp [] C.hid C.fs σ₀ s₀.heap σ s.heap) (h : Jd C R t env ρ σ Q X) :
    wpAny (model C.prog C.w) C.A t (PostV C R σ₀ s₀ Q) (PostX C [] σ₀ s₀ X) s :=
  Jd.seq hs he hup hst (h.mono (fun d σ₁ q _ _ u g _ st _ r => ⟨d, σ₁, u, g, st, r, q⟩) fun _ _ x => x)
end
section
theorem Mt.mono {P : Params} {V W : View} {h h' : Heap} {a : Addr} {o : AObj} (x : Mt P V h a o) (k : ∀ a o, V a = some o → ¬ Odd o → W a = some o) (e : h'.get? a = h.get? a) : Mt P W h' a o := by
  cases o with
  | lst ds => obtain ⟨vs, n, h1, h2⟩ := x; exact ⟨vs, n, e.trans h1, h2.mono k⟩
  | dict ks ds => obtain ⟨z, es, n, h1, h2, h3⟩ := x; exact ⟨z, es, n, e.trans h1, h2, h3.mono k⟩
  | inst C dx => exact e.trans x
  | tab ps => exact e.trans x
theorem Mt.there {P : Params} {V : View} {h : Heap} {a : Addr} {o : AObj} (x : Mt P V h a o) : ∃ ob, h.get? a = some ob := by
  cases o with
  | lst ds => obtain ⟨vs, n, h1, h2⟩ := x; exact ⟨_, h1⟩
  | dict ks ds => obtain ⟨_, es, n, h1, h2, h3⟩ := x; exact ⟨_, h1⟩
  | inst C dx => exact ⟨_, x⟩
  | tab ps => exact ⟨_, x⟩

/-- a step that keeps the whole heap -/
theorem Hg.keep {C : Ctx} {σ : Store} {h h' : Heap} (x : Hg C σ h) (k : ∀ b o, h.get? b = some o → h'.get? b = some o) : Hg C σ h' where
  ok := x.ok
  stays := fun b o e => k b o (x.stays b o e)
  off := x.off
  frames := x.frames.of_keeps fun b o e _ => ⟨o, k b o e, rfl⟩
  low := fun a ha => let ⟨o, e⟩ := x.low a ha; ⟨o, k a o e⟩
  at_ := fun a o e => by
    obtain ⟨h1, h3⟩ := x.at_ a o e
    obtain ⟨ob, hob⟩ := h3.there
    refine ⟨h1, h3.mono (fun b p q _ => ?_) ((k a ob hob).trans hob.symm)⟩
    obtain ⟨q1, q2, q3⟩ := vw_some.mp q
    exact vw_some.mpr ⟨q1, q2, k b p q3⟩
theorem Stp.ofKeep {hid fs : List Addr} {σ : Store} {h h' : Heap} (hσ : ∀ a, σ a ≠ none → a ∉ hid) (hfs : ∀ a ∈ fs, a ∈ hid) (k : ∀ b o, h.get? b = some o → h'.get? b = some o) : Stp [] hid fs σ h σ h' :=
  ⟨(fun _ h => nomatch h), hfs, fun a o e _ _ _ => ⟨fun _ => k a o e, o.slots, k a o e⟩, fun a e => ⟨hσ a e, .inl e⟩, fun a o e => ⟨o, k a o e⟩⟩

/-- a tree that changes nothing but the tokens, and may make new objects -/
def Pure1 (C : Ctx) (σ : Store) (s : Shared) (t : Sem Value) (d : D) : Prop :=
  ∀ (Q E : Value → Shared → Prop), (∀ v h' tk, (∀ b o, s.heap.get? b = some o → h'.get? b = some o) → Rp C.w.params (vw C.hid σ h') v d → Q v { s with heap := h', toks := tk }) → wpAny (model C.prog C.w) C.A t Q E s

theorem Pure1.use {C : Ctx} {σ σ₀ : Store} {s s₀ : Shared} {t : Sem Value} {d : D} {Q : D → Store → Prop} {X : XP} (h : Pure1 C σ s t d) (g : Hg C σ s.heap) (u : Upto s₀ s) (st : Stp [] C.hid C.fs σ₀ s₀.heap σ s.heap) (q : Q d σ) :
    wpAny (model C.prog C.w) C.A t (Post C σ₀ s₀ Q) (PostX C [] σ₀ s₀ X) s :=
  h _ _ fun v h' tk k r => ⟨d, σ, u.trans Upto.mk', g.keep k, st.trans (Stp.ofKeep g.hσ g.ok.hids k), r, q⟩

theorem Pure1.here {C : Ctx} {σ : Store} {s : Shared} {t : Sem Value} {d : D} (h : ∀ (Q E : Value → Shared → Prop), (∀ v tk, Rp C.w.params (vw C.hid σ s.heap) v d → Q v { s with toks := tk }) → wpAny (model C.prog C.w) C.A t Q E s) : Pure1 C σ s t d :=
  fun Q E k => h Q E fun v tk r => k v s.heap tk (fun _ _ e => e) r

section
variable {C : Ctx} {env : Env} {ρ : Rho} {σ : Store} {X : XP}

theorem ev_name {x : Str} {pos : Pos} {d : D} {Q : D → Store → Prop} (hx : ρ.lookup x = some d) (q : Q d σ) (hd : (x == ("__debug__" : Str)) = false) : Ev C env ρ (.Name x pos) σ Q X := by
  refine ⟨fun s g e => ?_⟩
  obtain ⟨v, r, n⟩ := e.rd x d hx
  refine wpAny_Name ?_ hd
  have fin : Post C σ s Q v s := ⟨d, σ, .refl s, g, .refl g.hσ g.ok.hids, r, q⟩
  rcases n with ⟨n1, m, n2, n3⟩ | ⟨n1 | ⟨n1, n1'⟩, c, n2, n3⟩
  · exact wpAny_loadName_local e.kind n1 n2 n3 fin
  · exact wpAny_loadName_cell e.kind n1 n2 n3 fin
  · exact wpAny_loadName_free e.kind n1 n2 n3 fin n1'

theorem Hg.base_view {h : Heap} (g : Hg C σ h) {a : Addr} {o : Obj} (e : C.base.get? a = some o) : vw C.hid σ h a = some o :=
  vw_some.mpr ⟨(g.off a o e).1, (g.off a o e).2, g.stays a o e⟩
theorem Hg.K_view {h : Heap} (g : Hg C σ h) {a : Addr} {o : Obj} (e : C.K.lookup a = some o) : vw C.hid σ h a = some o := g.base_view (g.ok.wd.X a o e)
theorem Hg.K_heap {h : Heap} (g : Hg C σ h) {a : Addr} {o : Obj} (e : C.K.lookup a = some o) : h.get? a = some o := g.stays a o (g.ok.wd.X a o e)

theorem ev_global {x : Str} {pos : Pos} {v : Value} {d : D} {Q : D → Store → Prop} (hk : env.kindOf x = some .globalImplicit) (hv : nsIn C.K mainGlobals x = some (some v)) (hr : Rp C.w.params (fun a => C.K.lookup a) v d) (q : Q d σ) (hd : (x == ("__debug__" : Str)) = false) : Ev C env ρ (.Name x pos) σ Q X := by
  refine ⟨fun s g e => ?_⟩
  obtain ⟨mg, hg⟩ := g.ok.wd.g
  refine Name_function_global e.kind hk (loadGlobal_global (mg := mg) (v := v) ?_ (mg_of g.ok.wd.X hg hv) ?_) hd
  · rw [e.globals]
    exact hg.keeps g.stays
  · exact ⟨d, σ, .refl s, g, .refl g.hσ g.ok.hids, hr.mono fun a o h _ => g.K_view h, q⟩
theorem ev_builtin {x : Str} {pos : Pos} {v : Value} {Q : D → Store → Prop} (hk : env.kindOf x = some .globalImplicit) (hv : nsIn C.K mainGlobals x = some none) (hb : bootBuiltins x = some v) (hn : x ≠ "__name__") (q : Q (.glob v) σ) (hbi : env.builtins = builtinsNs) (hd : (x == ("__debug__" : Str)) = false) : Ev C env ρ (.Name x pos) σ Q X := by
  refine ⟨fun s g e => ?_⟩
  obtain ⟨mg, hg⟩ := g.ok.wd.g
  obtain ⟨mb, hb1, hb2⟩ := g.ok.wd.b
  refine Name_function_global e.kind hk (loadGlobal_builtin (mg := mg) (mb := mb) (v := v) ?_ (mg_none_of g.ok.wd.X hg hv) ?_ ((hb2 x hn).trans hb) ?_) hd
  · rw [e.globals]
    exact hg.keeps g.stays
  · rw [hbi]
    exact hb1.keeps g.stays
  · exact ⟨_, σ, .refl s, g, .refl g.hσ g.ok.hids, .glob v, q⟩

theorem ev_int {i : Int} {k : Nat} {pos : Pos} {Q : D → Store → Prop} (q : Q (.int i) σ) : Ev C env ρ (.Constant (.int i) k pos) σ Q X :=
  ⟨fun s g _ => wpAny_Constant_int ⟨_, σ, .mk', g, .refl g.hσ g.ok.hids, .int i _, q⟩⟩
theorem ev_str {x : Str} {k : Nat} {pos : Pos} {Q : D → Store → Prop} (q : Q (.str x) σ) : Ev C env ρ (.Constant (.str x) k pos) σ Q X :=
  ⟨fun s g _ => wpAny_Constant_str ⟨_, σ, .mk', g, .refl g.hσ g.ok.hids, .str x _, q⟩⟩
theorem ev_none {k : Nat} {pos : Pos} {Q : D → Store → Prop} (q : Q .none σ) : Ev C env ρ (.Constant .none k pos) σ Q X :=
  ⟨fun s g _ => wpAny_Constant_none ⟨_, σ, .refl s, g, .refl g.hσ g.ok.hids, .none, q⟩⟩
theorem ev_bool {b : Bool} {k : Nat} {pos : Pos} {Q : D → Store → Prop} (q : Q (.bool b) σ) : Ev C env ρ (.Constant (.bool b) k pos) σ Q X :=
  ⟨fun s g _ => Constant_bool ⟨_, σ, .refl s, g, .refl g.hσ g.ok.hids, .bool b, q⟩⟩

/-- an operation upon two values -/
structure BinD (C : Ctx) (σ : Store) (f : Value → Value → Sem Value) (a b d : D) : Prop where
  out : ∀ s va vb, Hg C σ s.heap → Rp C.w.params (vw C.hid σ s.heap) va a → Rp C.w.params (vw C.hid σ s.heap) vb b → Pure1 C σ s (f va vb) d
structure UnD (C : Ctx) (σ : Store) (f : Value → Sem Value) (a d : D) : Prop where
  out : ∀ s va, Hg C σ s.heap → Rp C.w.params (vw C.hid σ s.heap) va a → Pure1 C σ s (f va) d

theorem ev_two {e : Expr} {l r : Expr} {f : Value → Value → Sem Value} {Q : D → Store → Prop}
    (hw : ∀ (s : Shared) (Q E : Value → Shared → Prop), wpAny (model C.prog C.w) C.A (eval l env) (fun a s₁ => wpAny (model C.prog C.w) C.A (eval r env) (fun b s₂ => wpAny (model C.prog C.w) C.A (f a b) Q E s₂) E s₁) E s → wpAny (model C.prog C.w) C.A (eval e env) Q E s)
    (h : Ev C env ρ l σ (fun a σ₁ => Ev C env ρ r σ₁ (fun b σ₂ => ∃ d, BinD C σ₂ f a b d ∧ Q d σ₂) X) X) : Ev C env ρ e σ Q X := by
  refine ⟨fun s g en => ?_⟩
  refine hw s _ _ (Jd.seq g en (.refl s) (.refl g.hσ g.ok.hids) (h.mono (fun a σ₁ q => ?_) fun _ _ x => x))
  intro va s₁ u₁ g₁ e₁ st₁ _ r₁
  refine Jd.seq g₁ e₁ u₁ st₁ (q.mono (fun b σ₂ q => ?_) fun _ _ x => x)
  intro vb s₂ u₂ g₂ e₂ st₂ st r₂
  obtain ⟨d, hd, hq⟩ := q
  exact (hd.out s₂ va vb g₂ (r₁.mono st.view) r₂).use g₂ u₂ st₂ hq

theorem ev_binop {l r : Expr} {op : Operator} {pos : Pos} {Q : D → Store → Prop} (h : Ev C env ρ l σ (fun a σ₁ => Ev C env ρ r σ₁ (fun b σ₂ => ∃ d, BinD C σ₂ (binaryOp op) a b d ∧ Q d σ₂) X) X) : Ev C env ρ (.BinOp l op r pos) σ Q X :=
  ev_two (fun _ _ _ h => wpAny_BinOp h) h
theorem ev_cmp {l r : Expr} {op : CmpOp} {pos : Pos} {Q : D → Store → Prop} (h : Ev C env ρ l σ (fun a σ₁ => Ev C env ρ r σ₁ (fun b σ₂ => ∃ d, BinD C σ₂ (compareOp op) a b d ∧ Q d σ₂) X) X) (hm : behindInMarks op r = false) : Ev C env ρ (.Compare l [op] [r] pos) σ Q X :=
  ev_two (fun _ _ _ h => wpAny_Compare1 h hm) h
theorem ev_sub {l r : Expr} {pos : Pos} {Q : D → Store → Prop} (h : Ev C env ρ l σ (fun a σ₁ => Ev C env ρ r σ₁ (fun b σ₂ => ∃ d, BinD C σ₂ (subscriptTail l r) a b d ∧ Q d σ₂) X) X) : Ev C env ρ (.Subscript l r pos) σ Q X :=
  ev_two (fun _ _ _ h => Subscript_ h) h
theorem ev_un {x : Expr} {op : UnaryOp} {pos : Pos} {Q : D → Store → Prop} (h : Ev C env ρ x σ (fun a σ₁ => ∃ d, UnD C σ₁ (unaryOp op) a d ∧ Q d σ₁) X) : Ev C env ρ (.UnaryOp op x pos) σ Q X := by
  refine ⟨fun s g en => ?_⟩
  refine UnaryOp_ (Jd.seq g en (.refl s) (.refl g.hσ g.ok.hids) (h.mono (fun a σ₁ q => ?_) fun _ _ x => x))
  intro va s₁ u₁ g₁ e₁ st₁ _ r₁
  obtain ⟨d, hd, hq⟩ := q
  exact (hd.out s₁ va g₁ r₁).use g₁ u₁ st₁ hq

/-- truth -/
structure TruD (C : Ctx) (σ : Store) (a : D) (b : Bool) : Prop where
  out : ∀ s va, Hg C σ s.heap → Rp C.w.params (vw C.hid σ s.heap) va a → ∀ (Q : Bool → Shared → Prop) (E : Value → Shared → Prop), (∀ h' tk, (∀ b o, s.heap.get? b = some o → h'.get? b = some o) → Q b { s with heap := h', toks := tk }) → wpAny (model C.prog C.w) C.A (truthy va) Q E s
theorem tru_bool {b : Bool} : TruD C σ (.bool b) b := by
  refine ⟨fun s va g r Q E k => ?_⟩
  obtain rfl := r.inv
  exact wpAny_truthy_bool (k s.heap s.toks (fun _ _ e => e))

theorem tst_value {e : Expr} {Q : Bool → Store → Prop} (h : Ev C env ρ e σ (fun a σ₁ => ∃ b, TruD C σ₁ a b ∧ Q b σ₁) X) (he : isTrue e env (eval e env) = (do let v ← eval e env; standAt e.pos; holding [v] (truthy v))) : Tst C env ρ e σ Q X := by
  refine ⟨fun s g en => ?_⟩
  refine isTrue_plain (Jd.seq g en (.refl s) (.refl g.hσ g.ok.hids) (h.mono (fun a σ₁ q => ?_) fun _ _ x => x)) he
  intro va s₁ u₁ g₁ e₁ st₁ _ r₁
  obtain ⟨b, hb, hq⟩ := q
  exact hb.out s₁ va g₁ r₁ _ _ fun h' tk k => ⟨b, σ₁, u₁.trans .mk', g₁.keep k, st₁.trans (.ofKeep g₁.hσ g₁.ok.hids k), rfl, hq⟩
theorem tst_cmp {l r : Expr} {op : CmpOp} {pos : Pos} {Q : Bool → Store → Prop} (h : Ev C env ρ l σ (fun a σ₁ => Ev C env ρ r σ₁ (fun b σ₂ => ∃ c, BinD C σ₂ (compareOp op) a b (.bool c) ∧ Q c σ₂) X) X) (hm : behindInMarks op r = false) : Tst C env ρ (.Compare l [op] [r] pos) σ Q X := by
  refine ⟨fun s g en => ?_⟩
  refine wpAny_isTrue_Compare1 (Jd.seq g en (.refl s) (.refl g.hσ g.ok.hids) (h.mono (fun a σ₁ q => ?_) fun _ _ x => x)) hm
  intro va s₁ u₁ g₁ e₁ st₁ _ r₁
  refine Jd.seq g₁ e₁ u₁ st₁ (q.mono (fun b σ₂ q => ?_) fun _ _ x => x)
  intro vb s₂ u₂ g₂ e₂ st₂ st r₂
  obtain ⟨c, hd, hq⟩ := q
  refine hd.out s₂ va vb g₂ (r₁.mono st.view) r₂ _ _ fun v h' tk k r => ?_
  obtain rfl := r.inv
  exact wpAny_truthy_bool ⟨c, σ₂, u₂.trans .mk', g₂.keep k, st₂.trans (.ofKeep g₂.hσ g₂.ok.hids k), rfl, hq⟩
theorem tst_not {x : Expr} {pos : Pos} {Q : Bool → Store → Prop} (h : Tst C env ρ x σ (fun b σ₁ => Q (!b) σ₁) X) : Tst C env ρ (.UnaryOp .Not x pos) σ Q X := by
  refine ⟨fun s g en => ?_⟩
  refine isTrue_not (wpAny_mono (h.out s g en) ?_ fun _ _ x => x)
  rintro v s' ⟨d, σ', a, b, c, rfl, q⟩
  exact ⟨_, σ', a, b, c, rfl, q⟩
theorem tst_and_nil {pos : Pos} {Q : Bool → Store → Prop} (q : Q true σ) : Tst C env ρ (.BoolOp .And [] pos) σ Q X := ⟨fun s g _ => isTrue_and_nil ⟨_, σ, .refl s, g, .refl g.hσ g.ok.hids, rfl, q⟩⟩
theorem tst_or_nil {pos : Pos} {Q : Bool → Store → Prop} (q : Q false σ) : Tst C env ρ (.BoolOp .Or [] pos) σ Q X := ⟨fun s g _ => isTrue_or_nil ⟨_, σ, .refl s, g, .refl g.hσ g.ok.hids, rfl, q⟩⟩
theorem tst_and {x : Expr} {rest : List Expr} {pos : Pos} {Q : Bool → Store → Prop} (h : Tst C env ρ x σ (fun b σ₁ => if b = true then Tst C env ρ (.BoolOp .And rest pos) σ₁ Q X else Q false σ₁) X) : Tst C env ρ (.BoolOp .And (x :: rest) pos) σ Q X := by
  refine ⟨fun s g en => ?_⟩
  refine isTrue_and (Jd.seq g en (.refl s) (.refl g.hσ g.ok.hids) (h.mono (fun b σ₁ q => ?_) fun _ _ x => x))
  intro v s₁ u₁ g₁ e₁ st₁ st r
  cases r
  cases b with
  | true => exact Jd.last g₁ e₁ u₁ st₁ (show Tst C env ρ (.BoolOp .And rest pos) σ₁ Q X from q)
  | false => exact ⟨_, σ₁, u₁, g₁, st₁, rfl, q⟩
theorem tst_or {x : Expr} {rest : List Expr} {pos : Pos} {Q : Bool → Store → Prop} (h : Tst C env ρ x σ (fun b σ₁ => if b = true then Q true σ₁ else Tst C env ρ (.BoolOp .Or rest pos) σ₁ Q X) X) : Tst C env ρ (.BoolOp .Or (x :: rest) pos) σ Q X := by
  refine ⟨fun s g en => ?_⟩
  refine isTrue_or (Jd.seq g en (.refl s) (.refl g.hσ g.ok.hids) (h.mono (fun b σ₁ q => ?_) fun _ _ x => x))
  intro v s₁ u₁ g₁ e₁ st₁ st r
  cases r
  cases b with
  | true => exact ⟨_, σ₁, u₁, g₁, st₁, rfl, q⟩
  | false => exact Jd.last g₁ e₁ u₁ st₁ (show Tst C env ρ (.BoolOp .Or rest pos) σ₁ Q X from q)
theorem ev_if {c a b : Expr} {pos : Pos} {Q : D → Store → Prop} (h : Tst C env ρ c σ (fun v σ₁ => if v = true then Ev C env ρ a σ₁ Q X else Ev C env ρ b σ₁ Q X) X) : Ev C env ρ (.IfExp c a b pos) σ Q X := by
  refine ⟨fun s g en => ?_⟩
  refine IfExp_ (Jd.seq g en (.refl s) (.refl g.hσ g.ok.hids) (h.mono (fun b σ₁ q => ?_) fun _ _ x => x))
  intro v s₁ u₁ g₁ e₁ st₁ st r
  cases r
  cases b with
  | true => exact Jd.last g₁ e₁ u₁ st₁ q
  | false => exact Jd.last g₁ e₁ u₁ st₁ q
theorem ev_one {op : BoolOp} {x : Expr} {pos : Pos} {Q : D → Store → Prop} (h : Ev C env ρ x σ Q X) : Ev C env ρ (.BoolOp op [x] pos) σ Q X := ⟨fun s g en => BoolOp_one (h.out s g en)⟩
theorem ev_and {x y : Expr} {rest : List Expr} {pos : Pos} {Q : D → Store → Prop} (h : Ev C env ρ x σ (fun a σ₁ => ∃ b, TruD C σ₁ a b ∧ (if b = true then Ev C env ρ (.BoolOp .And (y :: rest) pos) σ₁ Q X else Q a σ₁)) X) : Ev C env ρ (.BoolOp .And (x :: y :: rest) pos) σ Q X := by
  refine ⟨fun s g en => ?_⟩
  refine BoolOp_and (Jd.seq g en (.refl s) (.refl g.hσ g.ok.hids) (h.mono (fun a σ₁ q => ?_) fun _ _ x => x))
  intro va s₁ u₁ g₁ e₁ st₁ st r
  obtain ⟨b, hb, q⟩ := q
  refine hb.out s₁ va g₁ r _ _ fun h' tk k => ?_
  have g₂ := g₁.keep k
  have st₂ := Stp.ofKeep g₁.hσ g₁.ok.hids k
  cases b with
  | true => exact Jd.last (s := ⟨h', _, _, _, _⟩) g₂ (e₁.step st₂ g₁.hσ) (u₁.trans .mk') (st₁.trans st₂) q
  | false => exact ⟨_, σ₁, u₁.trans .mk', g₂, st₁.trans st₂, r.mono st₂.view, q⟩
theorem ev_or {x y : Expr} {rest : List Expr} {pos : Pos} {Q : D → Store → Prop} (h : Ev C env ρ x σ (fun a σ₁ => ∃ b, TruD C σ₁ a b ∧ (if b = true then Q a σ₁ else Ev C env ρ (.BoolOp .Or (y :: rest) pos) σ₁ Q X)) X) : Ev C env ρ (.BoolOp .Or (x :: y :: rest) pos) σ Q X := by
  refine ⟨fun s g en => ?_⟩
  refine BoolOp_or (Jd.seq g en (.refl s) (.refl g.hσ g.ok.hids) (h.mono (fun a σ₁ q => ?_) fun _ _ x => x))
  intro va s₁ u₁ g₁ e₁ st₁ st r
  obtain ⟨b, hb, q⟩ := q
  refine hb.out s₁ va g₁ r _ _ fun h' tk k => ?_
  have g₂ := g₁.keep k
  have st₂ := Stp.ofKeep g₁.hσ g₁.ok.hids k
  cases b with
  | true => exact ⟨_, σ₁, u₁.trans .mk', g₂, st₁.trans st₂, r.mono st₂.view, q⟩
  | false => exact Jd.last (s := ⟨h', _, _, _, _⟩) g₂ (e₁.step st₂ g₁.hσ) (u₁.trans .mk') (st₁.trans st₂) q

/-- several expressions -/
theorem evs_nil {pos : Pos} {Q : List D → Store → Prop} (q : Q [] σ) : Evs C env ρ pos [] σ Q X := ⟨fun s g _ => spliced_none ⟨[], σ, .refl s, g, .refl g.hσ g.ok.hids, .nil, q⟩⟩
theorem evs_cons {pos : Pos} {x : Expr} {r : List Expr} {Q : List D → Store → Prop} (h : Ev C env ρ x σ (fun d σ₁ => Evs C env ρ pos r σ₁ (fun ds σ₂ => Q (d :: ds) σ₂) X) X) (he : starEach (x :: r) env = (false, eval x env) :: starEach r env) : Evs C env ρ pos (x :: r) σ Q X := by
  refine ⟨fun s g en => ?_⟩
  refine spliced_more (Jd.seq g en (.refl s) (.refl g.hσ g.ok.hids) (h.mono (fun a σ₁ q => ?_) fun _ _ x => x)) he
  intro va s₁ u₁ g₁ e₁ st₁ st r₁
  refine Jd.seq g₁ e₁ u₁ st₁ (q.mono (fun b σ₂ q => ?_) fun _ _ x => x)
  intro vs s₂ u₂ g₂ e₂ st₂ st r₂
  exact ⟨_, σ₂, u₂, g₂, st₂, .cons (r₁.mono st.view) r₂, q⟩
theorem ev_tup {es : List Expr} {k : Nat} {pos : Pos} {Q : D → Store → Prop} (h : Evs C env ρ pos es σ (fun ds σ₁ => ds.length ≤ 1000 ∧ Q (.tup ds) σ₁) X) : Ev C env ρ (.Tuple es k pos) σ Q X := by
  refine ⟨fun s g en => ?_⟩
  refine wpAny_Tuple (Jd.seq g en (.refl s) (.refl g.hσ g.ok.hids) (h.mono (fun a σ₁ q => ?_) fun _ _ x => x))
  intro vs s₁ u₁ g₁ e₁ st₁ st r
  have hl := r.length
  have hk : ∀ b o, s₁.heap.get? b = some o → (s₁.heap.push { cls := .type "tuple", data := .seq vs.toArray }).get? b = some o := fun b o e => Heap.get?_push_of_some _ e
  have st₂ := Stp.ofKeep g₁.hσ g₁.ok.hids hk
  refine ⟨by rw [hl]; exact Nat.le_trans q.1 (by decide), _, σ₁, u₁.trans (.mk' (tk := s₁.toks)), g₁.keep hk, st₁.trans st₂, .tup (vw_some.mpr ⟨fun hm => ?_, ?_, Heap.get?_push_size _ rfl⟩) rfl rfl (r.mono st₂.view), q.2⟩
  · obtain ⟨o, e⟩ := g₁.low _ hm
    exact absurd (Heap.lt_size e) (Nat.lt_irrefl _)
  · cases z : σ₁ s₁.heap.objs.size with
    | none => rfl
    | some o =>
      obtain ⟨ob, e⟩ := (g₁.at_ _ _ z).2.there
      exact absurd (Heap.lt_size e) (Nat.lt_irrefl _)
theorem ev_list {es : List Expr} {pos : Pos} {Q : D → Store → Prop} (h : Evs C env ρ pos es σ (fun ds σ₁ => ds.length ≤ 1000 ∧ Q (.lst ds) σ₁) X) : Ev C env ρ (.List es pos) σ Q X := by
  refine ⟨fun s g en => ?_⟩
  refine wpAny_List_spliced (Jd.seq g en (.refl s) (.refl g.hσ g.ok.hids) (h.mono (fun a σ₁ q => ?_) fun _ _ x => x))
  intro vs s₁ u₁ g₁ e₁ st₁ st r
  have hl := r.length
  have hk : ∀ b o, s₁.heap.get? b = some o → (s₁.heap.push { cls := .type "list", data := .seq vs.toArray }).get? b = some o := fun b o e => Heap.get?_push_of_some _ e
  have st₂ := Stp.ofKeep g₁.hσ g₁.ok.hids hk
  refine ⟨by rw [hl]; exact Nat.le_trans q.1 (by decide), _, σ₁, u₁.trans (.mk' (tk := s₁.toks)), g₁.keep hk, st₁.trans st₂, .lst (n := 0) (vw_some.mpr ⟨fun hm => ?_, ?_, Heap.get?_push_size _ rfl⟩) (r.mono st₂.view), q.2⟩
  · obtain ⟨o, e⟩ := g₁.low _ hm
    exact absurd (Heap.lt_size e) (Nat.lt_irrefl _)
  · cases z : σ₁ s₁.heap.objs.size with
    | none => rfl
    | some o =>
      obtain ⟨ob, e⟩ := (g₁.at_ _ _ z).2.there
      exact absurd (Heap.lt_size e) (Nat.lt_irrefl _)
end
end
section
inductive FD where
  | next | brk | cont
  | ret (d : D)
inductive Rf (P : Params) (V : View) : Flow → FD → Prop
  | next : Rf P V .next .next
  | brk : Rf P V .brk .brk
  | cont : Rf P V .cont .cont
  | ret {v : Value} {d : D} : Rp P V v d → Rf P V (.ret v) (.ret d)
theorem Rf.mono {P : Params} {V W : View} (k : ∀ a o, V a = some o → ¬ Odd o → W a = some o) {f : Flow} {d : FD} (h : Rf P V f d) : Rf P W f d := by
  cases h with
  | ret r => exact .ret (r.mono k)
  | _ => constructor

inductive XPost (C : Ctx) (env : Env) (σ₀ : Store) (s₀ : Shared) (Q : FD → Rho → Store → Prop) (f : Flow) (s' : Shared) : Prop
  | mk (d : FD) (ρ' : Rho) (σ' : Store) : Upto s₀ s' → Hg C σ' s'.heap → He C.w.params C.hid env ρ' (vw C.hid σ' s'.heap) s'.heap → Stp (ownOf env) C.hid C.fs σ₀ s₀.heap σ' s'.heap → Rf C.w.params (vw C.hid σ' s'.heap) f d → Q d ρ' σ' → XPost C env σ₀ s₀ Q f s'
/-- a statement, or several -/
structure Xx (C : Ctx) (env : Env) (ρ : Rho) (t : Sem Flow) (σ : Store) (Q : FD → Rho → Store → Prop) (X : XP) : Prop where
  out : ∀ s, Hg C σ s.heap → He C.w.params C.hid env ρ (vw C.hid σ s.heap) s.heap →
    wpAny (model C.prog C.w) C.A t (XPost C env σ s Q) (PostX C (ownOf env) σ s X) s
abbrev Ex (C : Ctx) (env : Env) (ρ : Rho) (st : Stmt) := Xx C env ρ (exec st env)
abbrev Exs (C : Ctx) (env : Env) (ρ : Rho) (sts : List Stmt) := Xx C env ρ (execs sts env)

theorem Xx.mono {C : Ctx} {env : Env} {ρ : Rho} {t : Sem Flow} {σ : Store} {Q Q' : FD → Rho → Store → Prop} {X X' : XP} (h : Xx C env ρ t σ Q X) (hq : ∀ d ρ' σ', Q d ρ' σ' → Q' d ρ' σ') (hx : ∀ m σ', X m σ' → X' m σ') : Xx C env ρ t σ Q' X' := by
  refine ⟨fun s hs he => ?_⟩
  refine wpAny_mono (h.out s hs he) ?_ ?_
  · rintro v s' ⟨d, ρ', σ', a, b, c, st, r, q⟩
    exact ⟨d, ρ', σ', a, b, c, st, r, hq d ρ' σ' q⟩
  · rintro e s' ⟨m, σ', a, b, c, q⟩
    exact ⟨m, σ', a, b, c, hx m σ' q⟩


theorem Stp.start {env : Env} {C : Ctx} {σ : Store} {s : Shared} {ρ : Rho} (g : Hg C σ s.heap) (e : He C.w.params C.hid env ρ (vw C.hid σ s.heap) s.heap) : Stp (ownOf env) C.hid C.fs σ s.heap σ s.heap :=
  (Stp.refl g.hσ g.ok.hids).weak (fun _ h => nomatch h) e.ins

/-- an expression within a statement -/
theorem Jd.seqX {α δ : Type} {C : Ctx} {R : View → α → δ → Prop} {t : Sem α} {env : Env} {ρ : Rho} {σ : Store} {X : XP} {s s₀ : Shared} {σ₀ : Store} {P : α → Shared → Prop}
    (hs : Hg C σ s.heap) (he : He C.w.params C.hid env ρ (vw C.hid σ s.heap) s.heap) (hup : Upto s₀ s) (hst : Stp (ownOf env) C.hid C.fs σ₀ s₀.heap σ s.heap)
    (h : Jd C R t env ρ σ (fun d σ₁ => ∀ (v : α) (s₁ : Shared), Upto s₀ s₁ → Hg C σ₁ s₁.heap → He C.w.params C.hid env ρ (vw C.hid σ₁ s₁.heap) s₁.heap → Stp (ownOf env) C.hid C.fs σ₀ s₀.heap σ₁ s₁.heap → Stp [] C.hid C.fs σ s.heap σ₁ s₁.heap → R (vw C.hid σ₁ s₁.heap) v d → P v s₁) X) :
    wpAny (model C.prog C.w) C.A t P (PostX C (ownOf env) σ₀ s₀ X) s := by
  refine wpAny_mono (h.out s hs he) ?_ ?_
  · rintro v s₁ ⟨d, σ₁, u, g, st, r, q⟩
    exact q v s₁ (hup.trans u) g (he.step st hs.hσ) (hst.trans (st.weak (fun _ h => nomatch h) he.ins)) st r
  · rintro e s₁ ⟨m, σ₁, u, g, st, q⟩
    exact ⟨m, σ₁, hup.trans u, g, hst.trans (st.weak (fun _ h => nomatch h) he.ins), q⟩
theorem Xx.seqX {C : Ctx} {env : Env} {ρ : Rho} {t : Sem Flow} {σ : Store} {X : XP} {s s₀ : Shared} {σ₀ : Store} {P : Flow → Shared → Prop}
    (hs : Hg C σ s.heap) (he : He C.w.params C.hid env ρ (vw C.hid σ s.heap) s.heap) (hup : Upto s₀ s) (hst : Stp (ownOf env) C.hid C.fs σ₀ s₀.heap σ s.heap)
    (h : Xx C env ρ t σ (fun d ρ₁ σ₁ => ∀ (v : Flow) (s₁ : Shared), Upto s₀ s₁ → Hg C σ₁ s₁.heap → He C.w.params C.hid env ρ₁ (vw C.hid σ₁ s₁.heap) s₁.heap → Stp (ownOf env) C.hid C.fs σ₀ s₀.heap σ₁ s₁.heap → Rf C.w.params (vw C.hid σ₁ s₁.heap) v d → P v s₁) X) :
    wpAny (model C.prog C.w) C.A t P (PostX C (ownOf env) σ₀ s₀ X) s := by
  refine wpAny_mono (h.out s hs he) ?_ ?_
  · rintro v s₁ ⟨d, ρ₁, σ₁, u, g, e, st, r, q⟩
    exact q v s₁ (hup.trans u) g e (hst.trans st) r
  · rintro e s₁ ⟨m, σ₁, u, g, st, q⟩
    exact ⟨m, σ₁, hup.trans u, g, hst.trans st, q⟩
theorem Xx.last {C : Ctx} {env : Env} {ρ : Rho} {t : Sem Flow} {σ : Store} {Q : FD → Rho → Store → Prop} {X : XP} {s s₀ : Shared} {σ₀ : Store}
    (hs : Hg C σ s.heap) (he : He C.w.params C.hid env ρ (vw C.hid σ s.heap) s.heap) (hup : Upto s₀ s) (hst : Stp (ownOf env) C.hid C.fs σ₀ s₀.heap σ s.heap) (h : Xx C env ρ t σ Q X) :
    wpAny (model C.prog C.w) C.A t (XPost C env σ₀ s₀ Q) (PostX C (ownOf env) σ₀ s₀ X) s :=
  Xx.seqX hs he hup hst (h.mono (fun d ρ₁ σ₁ q _ _ u g e st r => ⟨d, ρ₁, σ₁, u, g, e, st, r, q⟩) fun _ _ x => x)

theorem funFrames_of {h h' base : Heap} (k : ∀ b o, h.get? b = some o → (∀ vs, o.data ≠ .fields vs) → ∃ o', h'.get? b = some o' ∧ (∀ vs, o'.data ≠ .fields vs)) : ∀ {l : List Env}, h.FunFrames base l → h'.FunFrames base l
  | [], _ => trivial
  | env :: _, ⟨hk, ⟨L, o, hf, hn, ho, hd⟩, hr⟩ => by
    obtain ⟨o', ho', hd'⟩ := k L o ho hd
    exact ⟨hk, ⟨L, o', hf, hn, ho', hd'⟩, funFrames_of k hr⟩

/-- one hidden place is turned -/
theorem Hg.turn {C : Ctx} {σ : Store} {h h' : Heap} {a : Addr} {o : Obj} (g : Hg C σ h) (ha : a ∈ C.hid) (k : ∀ b, b ≠ a → h'.get? b = h.get? b) (e : h'.get? a = some o) (hd : ∀ vs, o.data ≠ .fields vs) : Hg C σ h' where
  ok := g.ok
  stays := fun b p q => by
    have hb : b ≠ a := fun z => (g.off b p q).1 (z ▸ ha)
    rw [k b hb]; exact g.stays b p q
  off := g.off
  frames := funFrames_of (fun b p q hp => by
    by_cases z : b = a
    · exact ⟨o, z ▸ e, hd⟩
    · exact ⟨p, (k b z).trans q, hp⟩) g.frames
  low := fun b hb => by
    by_cases z : b = a
    · exact ⟨o, z ▸ e⟩
    · obtain ⟨p, q⟩ := g.low b hb
      exact ⟨p, (k b z).trans q⟩
  at_ := fun b p q => by
    obtain ⟨h1, h2⟩ := g.at_ b p q
    have hb : b ≠ a := fun z => h1 (z ▸ ha)
    refine ⟨h1, h2.mono (fun c x r _ => ?_) (k b hb)⟩
    obtain ⟨r1, r2, r3⟩ := vw_some.mp r
    exact vw_some.mpr ⟨r1, r2, (k c fun z => r1 (z ▸ ha)).trans r3⟩
theorem Stp.turn {own hid fs : List Addr} {σ : Store} {h h' : Heap} {a : Addr} {o : Obj} (hσ : ∀ b, σ b ≠ none → b ∉ hid) (hfs : ∀ b ∈ fs, b ∈ hid) (hs : ∀ b ∈ own, b ∈ hid) (ha : a ∈ own) (k : ∀ b, b ≠ a → h'.get? b = h.get? b) (e : h'.get? a = some o) : Stp own hid fs σ h σ h' where
  sub := hs
  subf := hfs
  keep := fun b p q _ _ hn => by
    have hb : b ≠ a := fun z => hn (z ▸ ha)
    exact ⟨fun _ => (k b hb).trans q, p.slots, (k b hb).trans q⟩
  fresh := fun b q => ⟨hσ b q, .inl q⟩
  there := fun b p q => by
    by_cases z : b = a
    · exact ⟨o, z ▸ e⟩
    · exact ⟨p, (k b z).trans q⟩
theorem view_turn {C : Ctx} {σ : Store} {h h' : Heap} {a : Addr} (ha : a ∈ C.hid) (k : ∀ b, b ≠ a → h'.get? b = h.get? b) : ∀ b o, vw C.hid σ h b = some o → ¬ Odd o → vw C.hid σ h' b = some o := by
  intro c x r _
  obtain ⟨r1, r2, r3⟩ := vw_some.mp r
  exact vw_some.mpr ⟨r1, r2, (k c fun z => r1 (z ▸ ha)).trans r3⟩

section
variable {C : Ctx} {env : Env} {ρ : Rho} {σ : Store} {X : XP}

/-- a name stored -/
theorem store_name {x : Str} {v : Value} {d : D} {s s₀ : Shared} {σ₀ : Store} {E : Value → Shared → Prop} {P : Shared → Prop} (hk : env.kindOf x = some .local ∨ (env.kindOf x = some .cell ∧ (env.cells.lookup x).isSome = true))
    (g : Hg C σ s.heap) (e : He C.w.params C.hid env ρ (vw C.hid σ s.heap) s.heap) (u : Upto s₀ s) (st : Stp (ownOf env) C.hid C.fs σ₀ s₀.heap σ s.heap) (r : Rp C.w.params (vw C.hid σ s.heap) v d)
    (h : ∀ s', Upto s₀ s' → Hg C σ s'.heap → He C.w.params C.hid env ((x, d) :: ρ) (vw C.hid σ s'.heap) s'.heap → Stp (ownOf env) C.hid C.fs σ₀ s₀.heap σ s'.heap → Stp (ownOf env) C.hid C.fs σ s.heap σ s'.heap → P s') :
    wpAny (model C.prog C.w) C.A (storeName env x v) (fun _ => P) E s := by
  have nc : ∀ (y : Str) (c : Addr) (w : Option Value), env.cells.lookup y = some c → s.heap.IsCell c w → c ≠ env.locals := fun y c w _ hw z => by
    obtain ⟨m, o, es, ep, ho, hd, _⟩ := e.ns
    obtain ⟨o', ho', hd'⟩ := hw
    rw [z, ho] at ho'; cases ho'
    rw [hd] at hd'; cases hd'
  rcases hk with hk | ⟨hk, hc⟩
  · obtain ⟨m, hm⟩ := e.ns
    refine wpAny_storeName_local hk hm (fun h' hn hb => ?_) (by rw [e.kind]; rfl)
    have hL : env.locals ∈ C.hid := e.ins _ (.head _)
    obtain ⟨oL, es, ep, hoL, hdL, rest⟩ := hn
    have g' := g.turn hL hb.2 hoL (fun vs q => by rw [hdL] at q; cases q)
    have st' : Stp (ownOf env) C.hid C.fs σ s.heap σ h' := Stp.turn g.hσ g.ok.hids e.ins (.head _) hb.2 hoL
    refine h _ (u.trans .mk') g' ?_ (st.trans st') st'
    have hcell : ∀ (y : Str) (c : Addr) (w : Option Value), env.cells.lookup y = some c → s.heap.IsCell c w → h'.IsCell c w := fun y c w hy hw => by
      have hne := nc y c w hy hw
      obtain ⟨o', ho', hd'⟩ := hw
      exact ⟨o', (hb.2 c hne).trans ho', hd'⟩
    refine ⟨e.kind, e.globals, e.ins, ⟨_, oL, es, ep, hoL, hdL, rest⟩, fun y c hy => ?_, e.inj, fun y dy hy => ?_⟩
    · obtain ⟨w, hw⟩ := e.cell y c hy
      exact ⟨w, hcell y c w hy hw⟩
    · rw [List.lookup_cons] at hy
      by_cases z : (y == x) = true
      · rw [z] at hy
        cases hy
        rw [beq_iff_eq] at z
        subst z
        exact ⟨v, r.mono (view_turn hL hb.2), .inl ⟨hk, _, ⟨oL, es, ep, hoL, hdL, rest⟩, if_pos rfl⟩⟩
      · have zf : (y == x) = false := by simpa using z
        rw [zf] at hy
        obtain ⟨w, rw', n⟩ := e.rd y dy hy
        refine ⟨w, rw'.mono (view_turn hL hb.2), ?_⟩
        have hyx : y ≠ x := fun q => z (by rw [q]; exact beq_self_eq_true x)
        rcases n with ⟨n1, m', n2, n3⟩ | ⟨n1, c, n2, n3⟩
        · refine .inl ⟨n1, _, ⟨oL, es, ep, hoL, hdL, rest⟩, ?_⟩
          show (if y = x then some v else m y) = some w
          rw [if_neg hyx]
          obtain ⟨o1, es1, ep1, a1, a2, a3, a4⟩ := hm
          obtain ⟨o2, es2, ep2, b1, b2, b3, b4⟩ := n2
          rw [a1] at b1; cases b1
          rw [a2] at b2; cases b2
          rw [← a4 y, b4 y, n3]
        · exact .inr ⟨n1, c, n2, hcell y c _ n2 n3⟩
  · obtain ⟨c, hc⟩ := Option.isSome_iff_exists.mp hc
    obtain ⟨v₀, hv₀⟩ := e.cell x c hc
    refine wpAny_storeName_cell e.kind hk hc hv₀ fun h' hn hb => ?_
    have hci : c ∈ ownOf env := .tail _ (lookup_mem hc)
    have hL : c ∈ C.hid := e.ins _ hci
    obtain ⟨oc, hoc, hdc⟩ := hn
    have g' := g.turn hL hb.2 hoc (fun vs q => by rw [hdc] at q; cases q)
    have st' : Stp (ownOf env) C.hid C.fs σ s.heap σ h' := Stp.turn g.hσ g.ok.hids e.ins hci hb.2 hoc
    refine h _ (u.trans (.mk' (tk := s.toks))) g' ?_ (st.trans st') st'
    have hne := nc x c v₀ hc hv₀
    have hns : ∀ m, s.heap.Ns env.locals m → h'.Ns env.locals m := fun m ⟨o, es, ep, ho, r⟩ => ⟨o, es, ep, (hb.2 _ (Ne.symm hne)).trans ho, r⟩
    have hcell : ∀ (y : Str) (c' : Addr) (w : Option Value), y ≠ x → env.cells.lookup y = some c' → s.heap.IsCell c' w → h'.IsCell c' w := fun y c' w hyx hy ⟨o', ho', hd'⟩ => by
      have hcc : c' ≠ c := fun z => hyx (e.inj y x c (z ▸ hy) hc)
      exact ⟨o', (hb.2 c' hcc).trans ho', hd'⟩
    refine ⟨e.kind, e.globals, e.ins, ?_, fun y c' hy => ?_, e.inj, fun y dy hy => ?_⟩
    · obtain ⟨m, hm⟩ := e.ns
      exact ⟨m, hns m hm⟩
    · by_cases z : y = x
      · subst z
        rw [hc] at hy; cases hy
        exact ⟨_, oc, hoc, hdc⟩
      · obtain ⟨w, hw⟩ := e.cell y c' hy
        exact ⟨w, hcell y c' w z hy hw⟩
    · rw [List.lookup_cons] at hy
      by_cases z : (y == x) = true
      · rw [z] at hy
        cases hy
        rw [beq_iff_eq] at z
        subst z
        exact ⟨v, r.mono (view_turn hL hb.2), .inr ⟨.inl hk, c, hc, oc, hoc, hdc⟩⟩
      · have zf : (y == x) = false := by simpa using z
        rw [zf] at hy
        have hyx : y ≠ x := fun q => z (by rw [q]; exact beq_self_eq_true x)
        obtain ⟨w, rw', n⟩ := e.rd y dy hy
        refine ⟨w, rw'.mono (view_turn hL hb.2), ?_⟩
        rcases n with ⟨n1, m', n2, n3⟩ | ⟨n1, c', n2, n3⟩
        · exact .inl ⟨n1, m', hns m' n2, n3⟩
        · exact .inr ⟨n1, c', n2, hcell y c' _ hyx n2 n3⟩

theorem ex_nil {Q : FD → Rho → Store → Prop} (q : Q .next ρ σ) : Exs C env ρ [] σ Q X := ⟨fun s g e => wpAny_execs_nil ⟨.next, ρ, σ, .refl s, g, e, .start g e, .next, q⟩⟩
/-- the rest behind a statement -/
def After (C : Ctx) (env : Env) (rest : List Stmt) (Q : FD → Rho → Store → Prop) (X : XP) : FD → Rho → Store → Prop
  | .next, ρ, σ => Exs C env ρ rest σ Q X
  | f, ρ, σ => Q f ρ σ
theorem ex_cons {st : Stmt} {rest : List Stmt} {Q : FD → Rho → Store → Prop} (h : Ex C env ρ st σ (After C env rest Q X) X) : Exs C env ρ (st :: rest) σ Q X := by
  refine ⟨fun s g e => ?_⟩
  refine wpAny_execs_cons (Xx.seqX g e (.refl s) (.start g e) (h.mono (fun d ρ₁ σ₁ q => ?_) fun _ _ x => x))
  intro f s₁ u₁ g₁ e₁ st₁ r
  cases r with
  | next => exact Xx.last g₁ e₁ u₁ st₁ q
  | brk => exact ⟨_, ρ₁, σ₁, u₁, g₁, e₁, st₁, .brk, q⟩
  | cont => exact ⟨_, ρ₁, σ₁, u₁, g₁, e₁, st₁, .cont, q⟩
  | ret r => exact ⟨_, ρ₁, σ₁, u₁, g₁, e₁, st₁, .ret r, q⟩

theorem ex_assign {x : Str} {pp pos : Pos} {e : Expr} {Q : FD → Rho → Store → Prop} (hk : env.kindOf x = some .local ∨ (env.kindOf x = some .cell ∧ (env.cells.lookup x).isSome = true))
    (h : Ev C env ρ e σ (fun d σ₁ => Q .next ((x, d) :: ρ) σ₁) X) (hs : swapsWith e (some (.Name x pp)) pos.line env = pure false) : Ex C env ρ (.Assign [.Name x pp] e pos) σ Q X := by
  refine ⟨fun s g en => ?_⟩
  refine wpAny_Assign_Name (Jd.seqX g en (.refl s) (.start g en) (h.mono (fun d σ₁ q => ?_) fun _ _ x => x)) hs
  intro v s₁ u₁ g₁ e₁ st₁ st r
  refine store_name hk g₁ e₁ u₁ st₁ r fun s₂ u₂ g₂ e₂ st₂ _ => ⟨_, _, σ₁, u₂, g₂, e₂, st₂, .next, q⟩
theorem ex_ret {e : Expr} {pos : Pos} {Q : FD → Rho → Store → Prop} (h : Ev C env ρ e σ (fun d σ₁ => Q (.ret d) ρ σ₁) X) : Ex C env ρ (.Return (some e) pos) σ Q X := by
  refine ⟨fun s g en => ?_⟩
  refine wpAny_Return_some (Jd.seqX g en (.refl s) (.start g en) (h.mono (fun d σ₁ q => ?_) fun _ _ x => x))
  intro v s₁ u₁ g₁ e₁ st₁ st r
  exact ⟨_, ρ, σ₁, u₁, g₁, e₁, st₁, .ret r, q⟩
theorem ex_if {c : Expr} {a b : List Stmt} {pos : Pos} {Q : FD → Rho → Store → Prop} (h : Tst C env ρ c σ (fun t σ₁ => if t = true then Exs C env ρ a σ₁ Q X else Exs C env ρ b σ₁ Q X) X) : Ex C env ρ (.If c a b pos) σ Q X := by
  refine ⟨fun s g en => ?_⟩
  refine wpAny_If (Jd.seqX g en (.refl s) (.start g en) (h.mono (fun d σ₁ q => ?_) fun _ _ x => x))
  intro v s₁ u₁ g₁ e₁ st₁ st r
  cases r
  cases d with
  | true => exact Xx.last g₁ e₁ u₁ st₁ q
  | false => exact Xx.last g₁ e₁ u₁ st₁ q
theorem ex_expr {e : Expr} {pos : Pos} {Q : FD → Rho → Store → Prop} (h : Ev C env ρ e σ (fun _ σ₁ => Q .next ρ σ₁) X) (hs : swapsWith e none pos.line env = pure false) (hi : interactive env = false) : Ex C env ρ (.Expr e pos) σ Q X := by
  refine ⟨fun s g en => ?_⟩
  refine wpAny_Expr_any (Jd.seqX g en (.refl s) (.start g en) (h.mono (fun d σ₁ q => ?_) fun _ _ x => x)) hi hs
  intro v s₁ u₁ g₁ e₁ st₁ st r
  exact ⟨_, ρ, σ₁, u₁, g₁, e₁, st₁, .next, q⟩
theorem ex_aug {x : Str} {pp pos : Pos} {op : Operator} {e : Expr} {a : D} {Q : FD → Rho → Store → Prop} (hk : env.kindOf x = some .local) (hx : ρ.lookup x = some a)
    (h : Ev C env ρ e σ (fun b σ₁ => ∃ d, BinD C σ₁ (inplaceOp op) a b d ∧ Q .next ((x, d) :: ρ) σ₁) X) : Ex C env ρ (.AugAssign (.Name x pp) op e pos) σ Q X := by
  refine ⟨fun s g en => ?_⟩
  refine wpAny_AugAssign_Name ?_
  obtain ⟨v, r, n⟩ := en.rd x a hx
  rcases n with ⟨n1, m, n2, n3⟩ | ⟨n1 | ⟨n1, _⟩, _⟩
  · refine wpAny_loadName_local en.kind n1 n2 n3 ?_
    refine Jd.seqX g en (.refl s) (.start g en) (h.mono (fun d σ₁ q => ?_) fun _ _ x => x)
    intro vb s₁ u₁ g₁ e₁ st₁ st rb
    obtain ⟨d, hd, q⟩ := q
    refine hd.out s₁ v vb g₁ (r.mono st.view) rb _ _ fun w h' tk k rw' => ?_
    have g₂ := g₁.keep k
    have st₂ := Stp.ofKeep g₁.hσ g₁.ok.hids k
    refine store_name (s := ⟨h', _, _, _, _⟩) (.inl hk) g₂ (e₁.step st₂ g₁.hσ) (u₁.trans .mk') (st₁.trans (st₂.weak (fun _ h => nomatch h) e₁.ins)) rw' fun s₃ u₃ g₃ e₃ st₃ _ => ⟨_, _, σ₁, u₃, g₃, e₃, st₃, .next, q⟩
  · rw [hk] at n1; cases n1
  · rw [hk] at n1; cases n1

/-- a, b = e1, e2 -/
theorem ex_swap {x y : Str} {p1 p2 : Pos} {k : Nat} {tpos pos : Pos} {e : Expr} {Q : FD → Rho → Store → Prop} (hx : env.kindOf x = some .local) (hy : env.kindOf y = some .local)
    (h : Ev C env ρ e σ (fun d σ₁ => ∃ a b, d = .tup [a, b] ∧ Q .next ((x, a) :: (y, b) :: ρ) σ₁) X)
    (hs : swapsWithSole [.Tuple [.Name x p1, .Name y p2] k tpos] e pos.line env = pure false) (hw : swappedStores [.Tuple [.Name x p1, .Name y p2] k tpos] e env = pure (some [x, y])) : Ex C env ρ (.Assign [.Tuple [.Name x p1, .Name y p2] k tpos] e pos) σ Q X := by
  refine ⟨fun s g en => ?_⟩
  refine Assign_Tuple_swapped (names := [x, y]) (Jd.seqX g en (.refl s) (.start g en) (h.mono (fun d σ₁ q => ?_) fun _ _ x => x)) hs hw
  intro v s₁ u₁ g₁ e₁ st₁ st r
  obtain ⟨a, b, rfl, q⟩ := q
  obtain ⟨t, o, vs, n, rfl, ht, hc, hd, hr⟩ := r.inv
  obtain ⟨va, vb, rfl, ra, rb⟩ := hr.two
  · · · · have hit : IsTup s₁.heap t #[va, vb] := ⟨_, (vw_some.mp ht).2.2, hc, n, hd⟩
          refine unpackItems_tuple (items := #[va, vb]) g₁.ok.handled hit fun h' he => ?_
          have k : ∀ b o, s₁.heap.get? b = some o → h'.get? b = some o := fun b o q => he b o (Nat.ne_of_lt (Heap.lt_size q)) q
          have g₂ := g₁.keep k
          have st₂ := Stp.ofKeep g₁.hσ g₁.ok.hids k
          have e₂ := e₁.step st₂ g₁.hσ
          refine wpAny_assignInOrder_more (wpAny_bindName ?_)
          refine store_name (s := ⟨h', _, _, _, _⟩) (.inl hy) g₂ e₂ (u₁.trans (.mk' (tk := s₁.toks))) (st₁.trans (st₂.weak (fun _ h => nomatch h) e₁.ins)) (rb.mono st₂.view) fun s₃ u₃ g₃ e₃ st₃ sx => ?_
          refine wpAny_assignInOrder_more (wpAny_bindName ?_)
          refine store_name (.inl hx) g₃ e₃ u₃ st₃ ((ra.mono st₂.view).mono sx.view) fun s₄ u₄ g₄ e₄ st₄ _ => ?_
          exact wpAny_assignInOrder_none ⟨_, _, σ₁, u₄, g₄, e₄, st₄, .next, q⟩
end
end
section
theorem mapFields_dict (f : Array Value → Array Value) (o : Obj) : (Obj.mapFields f o).dict = o.dict := by
  unfold Obj.mapFields
  split <;> rfl

section
variable {M : Model} {A : Around} {E : Value → Shared → Prop} {s : Shared}

/-- what a new entry of the traceback leaves -/
inductive NotedE (e : Addr) (oe : Obj) (vs : Array Value) (h h' : Heap) : Prop
  | mk (T : Addr) (oT : Obj) (ts : Array Value) (oe' : Obj) : h'.get? e = some oe' → oe'.cls = oe.cls → oe'.dict = oe.dict → oe'.data = .fields (vs.setIfInBounds 1 (.ref T)) → h.get? T = none → T ≠ e → h'.get? T = some oT → oT.cls = .type "traceback" → oT.data = .fields ts → 3 < ts.size → NotedE e oe vs h h'
structure Noted (fs : List Addr) (e : Addr) (oe : Obj) (vs : Array Value) (h h' : Heap) : Prop where
  other : ∀ b o, b ≠ e → b ∉ fs → h.get? b = some o → h'.get? b = some o
  frame : ∀ b o, b ∈ fs → h.get? b = some o → ∃ sl, h'.get? b = some { o with slots := sl }
  exc : NotedE e oe vs h h'

theorem newEntryX {base : Heap} {env : Env} {outer : List Env} {L e : Addr} {oe : Obj} {vs : Array Value} {head : Value} {hadNext : Bool} {Q : Unit → Shared → Prop}
    (hfr : A.frames = some (env :: outer)) (hl : s.heap.FunFrames base (env :: outer)) (hf : env.frame = some L)
    (he : s.heap.get? e = some oe) (hd : oe.data = .fields vs) (hsz : 1 < vs.size)
    (h : ∀ h', Noted ((env :: outer).filterMap (·.frame)) e oe vs s.heap h' → Q () { s with heap := h' }) :
    wpAny M A (do let a ← frameOf env; let pl ← entryPlaceOf L hadNext; let b ← EntryCells.newEntry head a .none (rawInt L) .none pl; setField (.ref e) 1 b) Q E s := by
  have hene : e ∉ (env :: outer).filterMap (·.frame) := fun hm => by
    obtain ⟨_, o, ho, hnf⟩ := hl.mem hm
    rw [he] at ho; injection ho with ho; subst ho; exact hnf vs hd
  refine wpAny_bind (wpAny_frameOf_fun hfr hl hf fun h₁ hs₁ => ?_)
  refine wpAny_bind (wpAny_entryPlaceOf fun pl hpl => ?_)
  unfold EntryCells.newEntry newFields
  refine wpAny_bind (wpAny_newObj_type ?_ (hpl.sizeOk5 _ _ _ _ _))
  have he₁ : h₁.get? e = some oe := (hs₁.2.1 e hene).trans he
  have he₂ := Heap.get?_push_of_some (h := h₁) { cls := .type "traceback", dict := none, data := .fields ([head, .ref L, .none, rawInt L, .none] ++ (if pl.isEmpty then List.replicate 6 Value.none else pl)).toArray } he₁
  refine wpAny_setField he₂ hd hsz (h _ ?_)
  have hTe : h₁.objs.size ≠ e := Nat.ne_of_gt (Heap.lt_size he₁)
  have hd₃ := Obj.data_mapFields hd (·.setIfInBounds 1 (Value.ref h₁.objs.size))
  have he₃ := Heap.get?_update_self (Obj.mapFields (·.setIfInBounds 1 (Value.ref h₁.objs.size))) he₂ (Obj.isFreed_of_fields hd₃)
  have hT₃ := (Heap.get?_update_other (h₁.push { cls := .type "traceback", dict := none, data := .fields ([head, .ref L, .none, rawInt L, .none] ++ (if pl.isEmpty then List.replicate 6 Value.none else pl)).toArray })
    (Obj.mapFields (·.setIfInBounds 1 (Value.ref h₁.objs.size))) (Ne.symm hTe)).trans (Heap.get?_push_size h₁ rfl)
  have keep : ∀ b o, b ≠ e → h₁.get? b = some o →
      ((h₁.push { cls := .type "traceback", dict := none, data := .fields ([head, .ref L, .none, rawInt L, .none] ++ (if pl.isEmpty then List.replicate 6 Value.none else pl)).toArray }).update e (Obj.mapFields (·.setIfInBounds 1 (Value.ref h₁.objs.size)))).get? b = some o := fun b o hbe hb => by
    rw [Heap.get?_update_other _ _ (Ne.symm hbe)]
    exact Heap.get?_push_of_some _ hb
  refine ⟨fun b o hbe hbf hb => keep b o hbe ((hs₁.2.1 b hbf).trans hb), fun b o hbf hb => ?_, h₁.objs.size, _, _, _, he₃, Obj.cls_mapFields _ _, mapFields_dict _ _, hd₃, ?_, hTe, hT₃, rfl, rfl, by simp only [List.size_toArray, List.length_append, List.length_cons, List.length_nil]; omega⟩
  · obtain ⟨sl, hs⟩ := hs₁.2.2 b o hb
    exact ⟨sl, keep b _ (fun z => hene (z ▸ hbf)) hs⟩
  · cases q : s.heap.get? h₁.objs.size with
    | none => rfl
    | some o =>
      have := Heap.lt_size q
      rw [hs₁.1] at this
      exact absurd this (Nat.lt_irrefl _)

/-- the first entry of a frame -/
theorem notingX {base : Heap} {env : Env} {outer : List Env} {L e : Addr} {oe : Obj} {vs : Array Value} {Q : Unit → Shared → Prop}
    (hfr : A.frames = some (env :: outer)) (hl : s.heap.FunFrames base (env :: outer)) (hf : env.frame = some L)
    (he : s.heap.get? e = some oe) (hd : oe.data = .fields vs) (h1 : vs[1]? = some .none)
    (h : ∀ h', Noted ((env :: outer).filterMap (·.frame)) e oe vs s.heap h' → Q () { s with heap := h' }) : wpAny M A (noteFrame (.ref e) env) Q E s := by
  unfold noteFrame
  simp only [hf]
  refine wpAny_bind (wpAny_field he hd h1 ?_)
  rw [if_neg (by decide)]
  exact newEntryX hfr hl hf he hd (Array.getElem?_eq_some_iff.mp h1).1 h

/-- a further frame: T's third place is set to none once more, or the entry stands -/
theorem notingY {base : Heap} {env : Env} {outer : List Env} {L e T : Addr} {oe oT : Obj} {vs ts : Array Value} {Q : Unit → Shared → Prop}
    (hfr : A.frames = some (env :: outer)) (hl : s.heap.FunFrames base (env :: outer)) (hf : env.frame = some L)
    (he : s.heap.get? e = some oe) (hd : oe.data = .fields vs) (h1 : vs[1]? = some (.ref T)) (hTe : T ≠ e) (hT : s.heap.get? T = some oT) (hdT : oT.data = .fields ts) (h3 : 3 < ts.size)
    (hs : Q () s)
    (h : ∀ h₁ h' oT', (∀ b, b ≠ T → h₁.get? b = s.heap.get? b) → h₁.get? T = some oT' → Noted ((env :: outer).filterMap (·.frame)) e oe vs h₁ h' → Q () { s with heap := h' }) : wpAny M A (noteFrame (.ref e) env) Q E s := by
  unfold noteFrame
  simp only [hf]
  refine wpAny_bind (wpAny_field he hd h1 ?_)
  rw [if_pos (show (Value.ref T != Value.none) = true from by simp)]
  have h3' : ts[3]? = some ts[3] := by simp [h3]
  refine wpAny_bind (wpAny_field hT hdT h3' ?_)
  by_cases hx : (ts[3] == rawInt L) = true
  · rw [if_pos hx]
    exact wpAny_pure hs
  rw [if_neg hx]
  refine wpAny_bind (wpAny_setField hT hdT h3 ?_)
  have other : ∀ b, b ≠ T → (s.heap.update T (Obj.mapFields (·.setIfInBounds 3 Value.none))).get? b = s.heap.get? b := fun b hb => Heap.get?_update_other _ _ (Ne.symm hb)
  have noRecord : ∀ b o, s.heap.get? b = some o → (∀ vs, o.data ≠ .fields vs) → b ≠ T := fun b o hb hnf q => by
    rw [q, hT] at hb; injection hb with hb; subst hb; exact hnf ts hdT
  exact newEntryX hfr (hl.of_keeps fun b o hb hnf => ⟨o, (other b (noRecord b o hb hnf)).trans hb, rfl⟩) hf ((other e (Ne.symm hTe)).trans he) hd (Array.getElem?_eq_some_iff.mp h1).1
    fun h' hN => h _ h' _ other (Heap.get?_update_self _ hT (Obj.isFreed_of_fields (Obj.data_mapFields hdT _))) hN
end

/-- a context less its head frame -/
structure Sub (C C₀ : Ctx) : Prop where
  prog : C.prog = C₀.prog
  w : C.w = C₀.w
  base : C.base = C₀.base
  hid : ∀ a ∈ C₀.hid, a ∈ C.hid

theorem Mt.sub {P : Params} {hid hid₀ : List Addr} {σ : Store} {h h' : Heap} {a : Addr} {o : AObj} (x : Mt P (vw hid σ h) h a o) (hs : ∀ b ∈ hid₀, b ∈ hid) (k : ∀ b o, vw hid σ h b = some o → ¬ Odd o → h'.get? b = some o) (e : h'.get? a = h.get? a) : Mt P (vw hid₀ σ h') h' a o :=
  x.mono (fun b p q hd => by
    obtain ⟨q1, q2, _⟩ := vw_some.mp q
    exact vw_some.mpr ⟨fun z => q1 (hs b z), q2, k b p q hd⟩) e

theorem Mt.notOdd {P : Params} {V : View} {h : Heap} {a : Addr} {o : AObj} (x : Mt P V h a o) {ob : Obj} (e : h.get? a = some ob) : ¬ Odd ob := by
  cases o with
  | lst ds => obtain ⟨vs, n, h1, h2⟩ := x; rw [e] at h1; cases h1; exact not_odd fun vs q => by cases q
  | dict ks ds => obtain ⟨_, es, n, h1, h2, h3⟩ := x; rw [e] at h1; cases h1; exact not_odd fun vs q => by cases q
  | inst C dx => have h1 : h.get? a = _ := x; rw [e] at h1; cases h1; exact not_odd fun vs q => by cases q
  | tab ps => have h1 : h.get? a = _ := x; rw [e] at h1; cases h1; exact fun ⟨_, q⟩ => q.elim (fun q => by cases q) (fun q => by cases q)

/-- the ground turned by a raise: all but the exception, its entry and the frames' slots stand -/
theorem Hg.raise {C C₀ : Ctx} {σ : Store} {h h' : Heap} (g : Hg C σ h) (sub : Sub C C₀) (ok : COk C₀) (hfr : ∀ env ∈ C₀.envs, env ∈ C.envs) (ff : h.FunFrames C.base C₀.envs)
    (k : ∀ b o, h.get? b = some o → b ∉ C.hid → σ b = none → C.base.get? b = some o ∨ ¬ Odd o → h'.get? b = some o) (kσ : ∀ b o, h.get? b = some o → σ b ≠ none → h'.get? b = some o)
    (kf : ∀ b o, h.get? b = some o → b ∈ C.hid → ∃ sl, h'.get? b = some { o with slots := sl }) : Hg C₀ σ h' where
  ok := ok
  stays := fun b o e => by
    rw [← sub.base] at e
    exact k b o (g.stays b o e) (g.off b o e).1 (g.off b o e).2 (.inl e)
  off := fun b o e => by
    rw [← sub.base] at e
    exact ⟨fun z => (g.off b o e).1 (sub.hid b z), (g.off b o e).2⟩
  frames := by
    rw [← sub.base]
    have hm : ∀ env ∈ C₀.envs, ∀ L, env.frame = some L → L ∈ C.hid := fun env he L hL => g.ok.hids L (List.mem_filterMap.mpr ⟨env, hfr env he, hL⟩)
    have go : ∀ l : List Env, (∀ env ∈ l, env ∈ C₀.envs) → h.FunFrames C.base l → h'.FunFrames C.base l := by
      intro l
      induction l with
      | nil => intro _ _; trivial
      | cons env r ih =>
        rintro hl ⟨hk, ⟨L, o, hf, hn, ho, hd⟩, hr⟩
        obtain ⟨sl, hs⟩ := kf L o ho (hm env (hl env (.head _)) L hf)
        exact ⟨hk, ⟨L, _, hf, hn, hs, hd⟩, ih (fun e he => hl e (.tail _ he)) hr⟩
    exact go _ (fun _ h => h) ff
  low := fun a ha => by
    obtain ⟨o, e⟩ := g.low a (sub.hid a ha)
    obtain ⟨sl, e'⟩ := kf a o e (sub.hid a ha)
    exact ⟨_, e'⟩
  at_ := fun a o e => by
    obtain ⟨h1, h2⟩ := g.at_ a o e
    obtain ⟨ob, hob⟩ := h2.there
    rw [← sub.w]
    refine ⟨fun z => h1 (sub.hid a z), h2.sub sub.hid (fun b p q hd => ?_) ((kσ a ob hob (by rw [e]; simp)).trans hob.symm)⟩
    obtain ⟨q1, q2, q3⟩ := vw_some.mp q
    exact k b p q3 q1 q2 (.inr hd)
inductive NotedF (e T₀ : Addr) (oe : Obj) (h h' : Heap) : Prop
  | mk (T : Addr) (oT : Obj) (ts : Array Value) (oe' : Obj) (vs : Array Value) : h'.get? e = some oe' → oe'.cls = oe.cls → oe'.dict = oe.dict → oe'.data = .fields vs → vs[1]? = some (.ref T) → (h.get? T = none ∨ T = T₀) → T ≠ e → h'.get? T = some oT → oT.cls = .type "traceback" → oT.data = .fields ts → 3 < ts.size → NotedF e T₀ oe h h'
structure NotedZ (fs : List Addr) (e T₀ : Addr) (oe : Obj) (h h' : Heap) : Prop where
  other : ∀ b o, b ≠ e → b ≠ T₀ → b ∉ fs → h.get? b = some o → h'.get? b = some o
  frame : ∀ b o, b ∈ fs → b ≠ T₀ → h.get? b = some o → ∃ sl, h'.get? b = some { o with slots := sl }
  there : (∃ o, h.get? T₀ = some o) → ∃ o, h'.get? T₀ = some o
  exc : NotedF e T₀ oe h h'

/-- an exception whose head entry stands -/
inductive MarkAt (h : Heap) (e : Value) : Prop
  | mk (a : Addr) (oe : Obj) (vs : Array Value) (T : Addr) : e = .ref a → h.get? a = some oe → oe.data = .fields vs → vs[1]? = some (.ref T) → MarkAt h e
structure Marked (C : Ctx) (σ : Store) (h : Heap) (e : Value) (msg : Str) : Prop where
  r : Raised C σ h e msg
  m : MarkAt h e

theorem Raised.turn {C : Ctx} {σ : Store} {h h' : Heap} {a T₀ : Addr} {msg : Str} {fs : List Addr} {oe : Obj} (R : Raised C σ h (.ref a) msg) (hfs : ∀ b ∈ fs, b ∈ C.hid) (he : h.get? a = some oe)
    (k1 : C.base.get? T₀ = none) (k2 : σ T₀ = none) (k3 : T₀ ∉ C.hid) (k4 : ∀ o, h.get? T₀ = some o → Odd o) (hff : ∀ b ∈ fs, b ∈ C.fs) (N : NotedZ fs a T₀ oe h h') : Marked C σ h' (.ref a) msg ∧ Stp [] C.hid C.fs σ h σ h' := by
  obtain ⟨g, a', oe₁, dx, vs, tb, es, n, t, hea, he', hcls, hdict, hd, h1, hb, hσ, hh, hdx, hmsg, hbx, hσx, hhx, htb⟩ := R
  cases hea
  rw [he] at he'
  cases he'
  have hodd : Odd oe := ⟨⟨vs, hd⟩, .inl hcls⟩
  have hne : dx ≠ a := fun z => by rw [z, he] at hdx; cases hdx; cases hd
  obtain ⟨T, oT, ts, oe', vs', n1, n2, n3, n4, n5, n6, n7, n8, n9, n10, n11⟩ := N.exc
  have hT : T ∉ C.hid ∧ σ T = none ∧ C.base.get? T = none := by
    rcases n6 with n6 | n6
    · refine ⟨fun z => ?_, ?_, ?_⟩
      · obtain ⟨o, q⟩ := g.low T z
        rw [n6] at q; cases q
      · cases q : σ T with
        | none => rfl
        | some u =>
          obtain ⟨o, q'⟩ := (g.at_ T u q).2.there
          rw [n6] at q'; cases q'
      · cases q : C.base.get? T with
        | none => rfl
        | some o =>
          have := g.stays T o q
          rw [n6] at this; cases this
    · rw [n6]; exact ⟨k3, k2, k1⟩
  have K : ∀ b o, h.get? b = some o → b ∉ C.hid → (C.base.get? b = some o ∨ ¬ Odd o) → h'.get? b = some o := fun b o q hb' hor => by
    refine N.other b o ?_ ?_ (fun z => hb' (hfs b z)) q
    · rintro rfl
      rcases hor with r | r
      · rw [hb] at r; cases r
      · rw [he] at q; cases q; exact r hodd
    · rintro rfl
      rcases hor with r | r
      · rw [k1] at r; cases r
      · exact r (k4 o q)
  have KF : ∀ b o, h.get? b = some o → b ∈ C.hid → ∃ sl, h'.get? b = some { o with slots := sl } := fun b o q hb' => by
    have x1 : b ≠ T₀ := fun z => k3 (z ▸ hb')
    by_cases m : b ∈ fs
    · exact N.frame b o m x1 q
    · exact ⟨o.slots, N.other b o (fun z => hh (z ▸ hb')) x1 m q⟩
  have KG : ∀ b o, h.get? b = some o → b ∉ C.fs → ¬ Odd o → h'.get? b = some o := fun b o q hb' hd' =>
    N.other b o (fun z => by rw [z, he] at q; cases q; exact hd' hodd) (fun z => hd' (k4 o (z ▸ q))) (fun z => hb' (hff b z)) q
  have KS : ∀ b o, h.get? b = some o → σ b ≠ none → h'.get? b = some o := fun b o q hs' => by
    cases z : σ b with
    | none => exact absurd z hs'
    | some u =>
      obtain ⟨z1, z2⟩ := g.at_ b u z
      exact K b o q z1 (.inr (z2.notOdd q))
  refine ⟨⟨⟨g.raise ⟨rfl, rfl, rfl, fun _ h => h⟩ g.ok (fun e he => he) g.frames (fun b o q hb' _ hor => K b o q hb' hor) KS KF, a, oe', dx, vs', .ref T, es, n, t, rfl, n1, n2.trans hcls, n3.trans hdict, n4, n5, hb, hσ, hh, ?_, hmsg, hbx, hσx, hhx, .inr ⟨T, oT, ts, rfl, hT.2.2, n7, n8, n9, n10, n11, hT.1, hT.2.1⟩⟩, a, oe', vs', T, rfl, n1, n4, n5⟩, ?_⟩
  · exact K dx _ hdx hhx (.inr (not_odd fun vs q => by cases q))
  · refine ⟨(fun _ h => nomatch h), g.ok.hids, fun b o q hd' hs' _ => ⟨fun hb' => KG b o q hb' hd', ?_⟩, fun b q => ⟨g.hσ b q, .inl q⟩, fun b o q => ?_⟩
    · by_cases m : b ∈ C.hid
      · exact KF b o q m
      · exact ⟨o.slots, K b o q m (.inr hd')⟩
    · by_cases z : b = a
      · exact ⟨oe', z ▸ n1⟩
      · by_cases z' : b = T₀
        · rw [z']; exact N.there ⟨o, z' ▸ q⟩
        · by_cases m : b ∈ fs
          · obtain ⟨sl, q'⟩ := N.frame b o m z' q
            exact ⟨_, q'⟩
          · exact ⟨o, N.other b o z z' m q⟩

/-- an entry of the head frame -/
theorem note_raised {C : Ctx} {env : Env} {outer : List Env} {L : Addr} {σ : Store} {s : Shared} {e : Value} {msg : Str} {Q : Unit → Shared → Prop} {E : Value → Shared → Prop}
    (hC : C.envs = env :: outer) (hf : env.frame = some L) (R : Raised C σ s.heap e msg)
    (h : ∀ h', Marked C σ h' e msg → Stp [] C.hid C.fs σ s.heap σ h' → Q () { s with heap := h' }) : wpAny (model C.prog C.w) C.A (noteFrame e env) Q E s := by
  have R₀ := R
  obtain ⟨g, a, oe, dx, vs, tb, es, n, t, rfl, he, hcls, hdict, hd, h1, hb, hσ, hh, hdx, hmsg, hbx, hσx, hhx, htb⟩ := R
  have hodd : Odd oe := ⟨⟨vs, hd⟩, .inl hcls⟩
  have hfs : ∀ b ∈ (env :: outer).filterMap (·.frame), b ∈ C.hid := by rw [← hC]; exact g.ok.hids
  have hfr : C.A.frames = some (env :: outer) := by rw [← hC]; exact g.ok.stack
  have hl : s.heap.FunFrames C.base (env :: outer) := by rw [← hC]; exact g.frames
  have fin : ∀ T₀ h', C.base.get? T₀ = none → σ T₀ = none → T₀ ∉ C.hid → (∀ o, s.heap.get? T₀ = some o → Odd o) → NotedZ ((env :: outer).filterMap (·.frame)) a T₀ oe s.heap h' → Q () { s with heap := h' } := fun T₀ h' k1 k2 k3 k4 N =>
    have xy := R₀.turn hfs he k1 k2 k3 k4 (by rw [← hC]; exact fun b h => h) N
    h h' xy.1 xy.2
  rcases htb with rfl | ⟨T, oT, ts, rfl, hbT, hTe, hT, hTc, hTd, hT3, hTh, hTσ⟩
  · refine notingX hfr hl hf he hd h1 fun h' N => fin a h' hb hσ hh (fun o q => by rw [he] at q; cases q; exact hodd) ?_
    obtain ⟨T, oT, ts, oe', n1, n2, n3, n4, n5, n6, n7, n8, n9, n10⟩ := N.exc
    exact ⟨fun b o q _ => N.other b o q, fun b o q _ => N.frame b o q, fun _ => ⟨_, n1⟩, T, oT, ts, oe', _, n1, n2, n3, n4, by have := (Array.getElem?_eq_some_iff.mp h1).1; simp [this], .inl n5, n6, n7, n8, n9, n10⟩
  · refine notingY hfr hl hf he hd h1 hTe hT hTd hT3 (h s.heap ⟨R₀, a, oe, vs, T, rfl, he, hd, h1⟩ (.refl g.hσ g.ok.hids)) fun h₁ h' oT' q1 q2 N => fin T h' hbT hTσ hTh (fun o q => by rw [hT] at q; cases q; exact ⟨⟨_, hTd⟩, .inr hTc⟩) ?_
    obtain ⟨T', oT₂, ts₂, oe', n1, n2, n3, n4, n5, n6, n7, n8, n9, n10⟩ := N.exc
    have hT' : T' ≠ T := fun z => by rw [z, q2] at n5; cases n5
    refine ⟨fun b o x y z q => N.other b o x z ((q1 b y).trans q), fun b o x y q => N.frame b o x ((q1 b y).trans q), fun _ => ?_, T', oT₂, ts₂, oe', _, n1, n2, n3, n4, by have := (Array.getElem?_eq_some_iff.mp h1).1; simp [this], .inl ((q1 T' hT').symm.trans n5), n6, n7, n8, n9, n10⟩
    by_cases m : T ∈ (env :: outer).filterMap (·.frame)
    · exact absurd (hfs T m) hTh
    · exact ⟨_, N.other T oT' hTe m q2⟩

/-- the entry's third place -/
theorem flight_raised {C : Ctx} {A : Around} {σ : Store} {s : Shared} {e : Value} {msg : Str} {fr : Option Addr} {Q : Unit → Shared → Prop} {E : Value → Shared → Prop} (R : Marked C σ s.heap e msg)
    (h : ∀ h', Marked C σ h' e msg → Stp [] C.hid C.fs σ s.heap σ h' → Q () { s with heap := h' }) : wpAny (model C.prog C.w) A (setFlight e fr) Q E s := by
  obtain ⟨R, a₁, oe₁, vs₁, T₁, rfl, he₁, hd₁, h1₁⟩ := R
  have R₀ := R
  obtain ⟨g, a, oe, dx, vs, tb, es, n, t, hea, he, hcls, hdict, hd, h1, hb, hσ, hh, hdx, hmsg, hbx, hσx, hhx, htb⟩ := R
  cases hea
  rw [he₁] at he
  cases he
  rw [hd₁] at hd
  cases hd
  rw [h1₁] at h1
  cases h1
  rcases htb with q | ⟨T, oT, ts, q, hbT, hTe, hT, hTc, hTd, hT3, hTh, hTσ⟩
  · cases q
  cases q
  unfold setFlight
  refine wpAny_bind (wpAny_field he₁ hd₁ h1₁ ?_)
  rw [if_pos (show (Value.ref T₁ != Value.none) = true from by simp)]
  refine wpAny_setField hT hTd hT3 ?_
  have hT' := Heap.get?_update_self (Obj.mapFields (·.setIfInBounds 3 (fr.elim .none fun f => rawInt f))) hT (Obj.isFreed_of_fields (Obj.data_mapFields hTd _))
  have ho : ∀ b, b ≠ T₁ → (s.heap.update T₁ (Obj.mapFields (·.setIfInBounds 3 (fr.elim .none fun f => rawInt f)))).get? b = s.heap.get? b := fun b hb => Heap.get?_update_other _ _ (Ne.symm hb)
  obtain ⟨x, y⟩ := R₀.turn (fs := []) (T₀ := T₁) (fun _ h => nomatch h) he₁ hbT hTσ hTh (fun o q => by rw [hT] at q; cases q; exact ⟨⟨_, hTd⟩, .inr hTc⟩) (fun _ h => nomatch h)
    ⟨fun b o _ hb _ q => (ho b hb).trans q, (fun _ _ h => nomatch h), fun _ => ⟨_, hT'⟩, T₁, _, _, oe₁, vs₁, (ho a₁ (Ne.symm hTe)).trans he₁, rfl, rfl, hd₁, h1₁, .inr rfl, hTe, hT', (Obj.cls_mapFields _ _).trans hTc, Obj.data_mapFields hTd _, by simpa using hT3⟩
  exact h _ x y

theorem Raised.leave {C C₀ : Ctx} {env : Env} {outer : List Env} {σ : Store} {h : Heap} {e : Value} {msg : Str} (R : Raised C σ h e msg) (hC₀ : ∀ env ∈ C₀.envs, env ∈ C.envs) (ff : h.FunFrames C.base C₀.envs) (sub : Sub C C₀) (ok : COk C₀) : Raised C₀ σ h e msg := by
  obtain ⟨g, a, oe, dx, vs, tb, es, n, t, rfl, he, hcls, hdict, hd, h1, hb, hσ, hh, hdx, hmsg, hbx, hσx, hhx, htb⟩ := R
  refine ⟨g.raise sub ok hC₀ ff (fun b o q _ _ _ => q) (fun b o q _ => q) (fun b o q _ => ⟨o.slots, q⟩), a, oe, dx, vs, tb, es, n, t, rfl, he, hcls, hdict, hd, h1, ?_, hσ, fun z => hh (sub.hid a z), hdx, hmsg, ?_, hσx, fun z => hhx (sub.hid dx z), htb.imp id ?_⟩
  · rw [← sub.base]; exact hb
  · rw [← sub.base]; exact hbx
  · rintro ⟨T, oT, ts, r, hbT, hTe, hT, hTc, hTd, hT3, hTh, hTσ⟩
    exact ⟨T, oT, ts, r, by rw [← sub.base]; exact hbT, hTe, hT, hTc, hTd, hT3, fun z => hTh (sub.hid T z), hTσ⟩

theorem leave_raised {C C₀ : Ctx} {env : Env} {outer : List Env} {L : Addr} {σ : Store} {s : Shared} {e : Value} {msg : Str} {Q : Unit → Shared → Prop} {E : Value → Shared → Prop}
    (hC : C.envs = env :: outer) (hC₀ : C₀.envs = outer) (sub : Sub C C₀) (ok : COk C₀) (hf : env.frame = some L) (R : Raised C σ s.heap e msg)
    (h : ∀ h', Raised C₀ σ h' e msg → Stp [] C.hid C.fs σ s.heap σ h' → Q () { s with heap := h' }) : wpAny (model C.prog C.w) C.A (leaving env e) Q E s := by
  unfold leaving
  refine wpAny_bind (note_raised hC hf R fun h₁ R₁ st₁ => ?_)
  refine flight_raised R₁ fun h₂ R₂ st₂ => ?_
  refine h h₂ (R₂.1.leave (env := env) (outer := outer) (fun e he => by rw [hC₀] at he; rw [hC]; exact .tail _ he) ?_ sub ok) (st₁.trans st₂)
  have := R₂.1.hg.frames
  rw [hC] at this
  rw [hC₀]
  exact this.2.2
end
section
/-- a call, by its arguments' data -/
structure CallD (C : Ctx) (f : Value) (ds : List D) (σ : Store) (Q : D → Store → Prop) (X : XP) : Prop where
  out : ∀ s vs, Hg C σ s.heap → RpAll C.w.params (vw C.hid σ s.heap) vs ds → wpAny (model C.prog C.w) C.A (call f vs) (Post C σ s Q) (PostX C [] σ s X) s

/-- the context of a def's frame -/
abbrev Ctx.enter (C : Ctx) (env : Env) (hid : List Addr) (k : Nat) : Ctx := { C with A := C.A.deeper env, envs := env :: C.envs, hid := hid ++ C.hid, fuel := k }

theorem lookup_zip {P : Params} {V : View} {x : Str} {d : D} {ns : List Str} {vs : List Value} {ds : List D} (r : RpAll P V vs ds) {as : List (Str × Value)} {bs : List (Str × D)} (h : ∀ y e, bs.lookup y = some e → ∃ v, as.lookup y = some v ∧ Rp P V v e)
    (e : ((ns.zip ds).reverse ++ bs).lookup x = some d) : ∃ v, ((ns.zip vs).reverse ++ as).lookup x = some v ∧ Rp P V v d := by
  induction ns generalizing vs ds as bs with
  | nil => exact h x d e
  | cons n ns ih =>
    cases ds with
    | nil => obtain rfl := r.inv; exact h x d e
    | cons d' ds =>
      obtain ⟨v, ws, rfl, r1, rs⟩ := r.inv
      rw [List.zip_cons_cons, List.reverse_cons, List.append_assoc] at e ⊢
      refine ih rs (as := (n, v) :: as) (bs := (n, d') :: bs) (fun y e he => ?_) e
      rw [List.lookup_cons] at he ⊢
      split at he
      · exact ⟨v, rfl, Option.some.inj he ▸ r1⟩
      · exact h y e he

theorem lookup_key {β : Type} {x : Str} {v : β} : ∀ {l : List (Str × β)}, l.lookup x = some v → x ∈ l.map (·.1)
  | [], e => by cases e
  | (y, b) :: r, e => by
    rw [List.lookup_cons] at e
    split at e
    · rename_i z
      rw [beq_iff_eq] at z
      simp [z]
    · exact List.mem_cons_of_mem _ (lookup_key e)

/-- what stood is not what was made -/
theorem fresh_ne {h : Heap} {a b : Addr} {o : Obj} (e : h.get? a = some o) (n : h.get? b = none) : a ≠ b := fun z => by rw [z, n] at e; cases e

theorem view_enter {hid new : List Addr} {σ : Store} {h h₁ : Heap} (k : ∀ b o, h.get? b = some o → h₁.get? b = some o) (n : ∀ a ∈ new, h.get? a = none) : ∀ a o, vw hid σ h a = some o → ¬ Odd o → vw (new ++ hid) σ h₁ a = some o := by
  intro a o e _
  obtain ⟨e1, e2, e3⟩ := vw_some.mp e
  exact vw_some.mpr ⟨fun m => (List.mem_append.mp m).elim (fun m => fresh_ne e3 (n a m) rfl) e1, e2, k a o e3⟩

/-- the ground of a new frame -/
theorem Hg.enter {C : Ctx} {σ : Store} {h h₁ : Heap} {env : Env} {L : Addr} {new : List Addr} {k : Nat} (g : Hg C σ h) (hk : ∀ b o, h.get? b = some o → h₁.get? b = some o) (hn : ∀ a ∈ new, h.get? a = none) (ht : ∀ a ∈ new, ∃ o, h₁.get? a = some o)
    (hf : env.frame = some L) (hL : L ∈ new) {m : Str → Option Value} (hns : h₁.Ns L m) (hkd : env.scope.kind = .function) (hfu : C.fuel = k + 1) : Hg (C.enter env new k) σ h₁ := by
  have g₁ := g.keep hk
  have hb : C.base.get? L = none := by
    cases q : C.base.get? L with
    | none => rfl
    | some o => have := g.stays L o q; rw [hn L hL] at this; cases this
  refine ⟨⟨g.ok.wd, g.ok.handled, ?_, ?_, ?_, ?_⟩, g₁.stays, fun a o e => ⟨fun m => ?_, (g.off a o e).2⟩, ?_, fun a m => ?_, fun a o e => ?_⟩
  · exact Around.frames_deeper g.ok.stack
  · intro a m
    obtain ⟨e, he, hea⟩ := List.mem_filterMap.mp m
    rcases List.mem_cons.mp he with rfl | he
    · rw [hf] at hea; cases hea; exact List.mem_append.mpr (.inl hL)
    · exact List.mem_append.mpr (.inr (g.ok.hids a (List.mem_filterMap.mpr ⟨e, he, hea⟩)))
  · have := g.ok.depth
    rw [hfu] at this
    show (C.A.deeper env).depth + k < recursionLimit
    rw [depth_deeper]; omega
  · have := g.ok.units
    rw [hfu] at this
    show (C.A.deeper env).units + 8 * k + 100 < cLine
    rw [units_deeper]; omega
  · rcases List.mem_append.mp m with m | m
    · have := g.stays a o e; rw [hn a m] at this; cases this
    · exact (g.off a o e).1 m
  · exact Heap.FunFrames.cons (by rw [hkd]; decide) hf hns hb g₁.frames
  · rcases List.mem_append.mp m with m | m
    · exact ht a m
    · exact g₁.low a m
  · obtain ⟨h1, h2⟩ := g.at_ a o e
    obtain ⟨ob, hob⟩ := h2.there
    refine ⟨fun m => ?_, h2.mono (view_enter hk hn) ((hk a ob hob).trans hob.symm)⟩
    rcases List.mem_append.mp m with m | m
    · rw [hn a m] at hob; cases hob
    · exact h1 m

/-- the ground behind a frame -/
theorem Hg.leave {C : Ctx} {σ : Store} {h : Heap} {env : Env} {new : List Addr} {k : Nat} (g : Hg (C.enter env new k) σ h) (ok : COk C) : Hg C σ h := by
  refine ⟨ok, g.stays, fun a o e => ⟨fun m => (g.off a o e).1 (List.mem_append.mpr (.inr m)), (g.off a o e).2⟩, g.frames.2.2, fun a m => g.low a (List.mem_append.mpr (.inr m)), fun a o e => ?_⟩
  obtain ⟨h1, h2⟩ := g.at_ a o e
  refine ⟨fun m => h1 (List.mem_append.mpr (.inr m)), h2.mono (fun b p q _ => ?_) rfl⟩
  obtain ⟨q1, q2, q3⟩ := vw_some.mp q
  exact vw_some.mpr ⟨fun m => q1 (List.mem_append.mpr (.inr m)), q2, q3⟩
theorem view_leave {hid new : List Addr} {σ : Store} {h : Heap} : ∀ a o, vw (new ++ hid) σ h a = some o → ¬ Odd o → vw hid σ h a = some o := by
  intro a o e _
  obtain ⟨e1, e2, e3⟩ := vw_some.mp e
  exact vw_some.mpr ⟨fun m => e1 (List.mem_append.mpr (.inr m)), e2, e3⟩
theorem Stp.leave {own own' new hid fs fs₁ : List Addr} {σ σ' : Store} {h h₁ h' : Heap} (x : Stp own (new ++ hid) fs₁ σ h₁ σ' h') (hk : ∀ b o, h.get? b = some o → h₁.get? b = some o) (hn : ∀ a ∈ new, h.get? a = none) (ho : ∀ a ∈ own, a ∈ new ∨ a ∈ own') (ho' : ∀ a ∈ own', a ∈ hid)
    (hf : ∀ a ∈ fs₁, a ∈ new ∨ a ∈ fs) (hfs : ∀ a ∈ fs, a ∈ hid) : Stp own' hid fs σ h σ' h' := by
  refine ⟨ho', hfs, fun a o e hd hs hno => ?_, fun a e => ?_, fun a o e => x.there a o (hk a o e)⟩
  · have hnew : a ∉ new := fun m => by rw [hn a m] at e; cases e
    obtain ⟨k1, k2⟩ := x.keep a o (hk a o e) hd hs fun m => (ho a m).elim hnew hno
    exact ⟨fun hh => k1 fun m => (hf a m).elim hnew hh, k2⟩
  · obtain ⟨e1, e2⟩ := x.fresh a e
    refine ⟨fun m => e1 (List.mem_append.mpr (.inr m)), e2.imp id fun e2 => ?_⟩
    cases q : h.get? a with
    | none => rfl
    | some o => rw [hk a o q] at e2; cases e2
theorem enter_fs {C : Ctx} {env : Env} {new : List Addr} {k : Nat} {L : Addr} (hf : env.frame = some L) (hL : L ∈ new) : ∀ a ∈ (C.enter env new k).fs, a ∈ new ∨ a ∈ C.fs := fun a m => by
  have e : (C.enter env new k).fs = L :: C.fs := by simp [Ctx.fs, Ctx.enter, List.filterMap_cons, hf]
  rw [e] at m
  rcases List.mem_cons.mp m with rfl | m
  · exact .inl hL
  · exact .inr m

/-- what a def's body hands back -/
def Back (Q : D → Store → Prop) : FD → Rho → Store → Prop
  | .ret d, _, σ => Q d σ
  | _, _, σ => Q .none σ

theorem call_def {C : Ctx} {σ : Store} {X : XP} {Q : D → Store → Prop} {name qual : Str} {params : Arguments} {body : List Stmt} {scope : Scope} {dV kV doc pm cdv ct oc : Value} {an od : Option Addr} {osl : Array (Option Value)} {f : Addr} {ds : List D} {ns : List Str} {ρ : Rho}
    (ho : C.K.lookup f = some ⟨oc, od, .func (fnOf name qual params body scope dV kV doc pm an cdv ct), osl⟩) (hcd : codeIn C.K cdv qual = true) (hfu : 0 < C.fuel)
    (hbind : ∀ (s : Shared) (vs : List Value), vs.length = ds.length → BindsTo s (fnOf name qual params body scope dV kV doc pm an cdv ct) ⟨vs, []⟩ (ns.zip vs))
    (hρ : (ns.zip ds).reverse = ρ) (hloc : ∀ y ∈ ns, scope.names.lookup y = some .local)
    (h : ∀ L', Exs (C.enter (envOf qual scope L' f cdv) [L'] (C.fuel - 1)) (envOf qual scope L' f cdv) ρ body σ (Back Q) X)
    (hco : scope.isCoroutine = false) (hgen : scope.isGenerator = false) (hk : scope.kind = .function)
    (hcell : ∀ x ∈ scope.names, x.2 ≠ .cell) : CallD C (.ref f) ds σ Q X := by
  refine ⟨fun s vs g r => ?_⟩
  have hroom : C.A.depth < recursionLimit := Nat.lt_of_le_of_lt (Nat.le_add_right _ _) g.ok.depth
  refine wpAny_call (codeAny_call_def (fd := fnOf name qual params body scope dV kV doc pm an cdv ct) (body := body) (binds := ns.zip vs) hroom (g.K_heap ho) rfl (g.ok.wd.nolimit.keeps g.stays) (codeRec_of (g.ok.wd.X.keeps g.stays) hcd) rfl (hbind s vs r.length) hcell (fun y hy => hloc y.1 (List.of_mem_zip hy).1) (fun h₁ hns hk₁ => ?_) hco hgen hk)
  have hnew : ∀ a ∈ [s.heap.objs.size], s.heap.get? a = none := fun a m => by
    rw [List.mem_singleton.mp m]
    cases q : s.heap.get? s.heap.objs.size with
    | none => rfl
    | some o => exact absurd (Heap.lt_size q) (Nat.lt_irrefl _)
  have hthere : ∀ a ∈ [s.heap.objs.size], ∃ o, h₁.get? a = some o := fun a m => by
    rw [List.mem_singleton.mp m]
    obtain ⟨o, _, _, q, _⟩ := hns
    exact ⟨o, q⟩
  have g₁ := g.enter (env := envOf qual scope s.heap.objs.size f cdv) (k := C.fuel - 1) hk₁ hnew hthere rfl (.head _) hns hk (by omega)
  have e₁ : He C.w.params ([s.heap.objs.size] ++ C.hid) (envOf qual scope s.heap.objs.size f cdv) ρ (vw ([s.heap.objs.size] ++ C.hid) σ h₁) h₁ := by
    refine ⟨hk, rfl, fun a m => ?_, ⟨_, hns⟩, fun x c e => (by cases e), fun x y c e => (by cases e), fun x d e => ?_⟩
    · exact List.mem_append.mpr (.inl m)
    · have e' : ((ns.zip ds).reverse ++ []).lookup x = some d := by rw [List.append_nil, hρ]; exact e
      obtain ⟨v, hv, hr⟩ := lookup_zip (r.mono (view_enter hk₁ hnew)) (as := []) (bs := []) (fun y e he => by cases he) e'
      rw [List.append_nil] at hv
      refine ⟨v, hr, .inl ⟨?_, _, hns, hv⟩⟩
      have hmem : x ∈ ns := by
        have := lookup_key hv
        rw [List.mem_map] at this
        obtain ⟨p, hp, rfl⟩ := this
        exact (List.of_mem_zip (List.mem_reverse.mp hp)).1
      exact hloc x hmem
  refine wpAny_mono ((h s.heap.objs.size).out ⟨h₁, _, _, _, _⟩ g₁ e₁) ?_ ?_
  · rintro fl s' ⟨fd, ρ', σ', u, g', e', st, rf, q⟩
    have gg : Hg C σ' s'.heap := Hg.leave g' g.ok
    have ss : Stp [] C.hid C.fs σ s.heap σ' s'.heap := Stp.leave st hk₁ hnew (fun a m => .inl m) (fun _ h => nomatch h) (enter_fs rfl (.head _)) g.ok.hids
    have uu : Upto s s' := Upto.trans (s₁ := ⟨h₁, _, _, _, _⟩) (.mk' (tk := s.toks + (ns.zip vs).length)) u
    cases rf with
    | ret r => exact ⟨_, σ', uu, gg, ss, r.mono view_leave, q⟩
    | next => exact ⟨_, σ', uu, gg, ss, .none, q⟩
    | brk => exact ⟨_, σ', uu, gg, ss, .none, q⟩
    | cont => exact ⟨_, σ', uu, gg, ss, .none, q⟩
  · rintro e s' ⟨msg, σ', u, R, st, q⟩
    refine leave_raised (C := C.enter (envOf qual scope s.heap.objs.size f cdv) [s.heap.objs.size] (C.fuel - 1)) (C₀ := C) rfl rfl ⟨rfl, rfl, rfl, fun a m => List.mem_append.mpr (.inr m)⟩ g.ok rfl R fun h' R' st' => ?_
    refine ⟨msg, σ', ?_, R', ?_, q⟩
    · exact (Upto.trans (s₁ := ⟨h₁, _, _, _, _⟩) (.mk' (tk := s.toks + (ns.zip vs).length)) u).trans (.mk' (tk := s'.toks))
    · refine Stp.leave (st.trans (st'.weak (fun _ h => nomatch h) st.sub)) hk₁ hnew (fun a m => .inl m) (fun _ h => nomatch h) (enter_fs rfl (.head _)) g.ok.hids
end
section
section
variable {C : Ctx} {env : Env} {ρ : Rho} {σ : Store} {X : XP}

theorem Hg.K_in {h : Heap} (g : Hg C σ h) : C.K.In h := g.ok.wd.X.keeps g.stays

theorem CallD.seq {f : Value} {ds : List D} {Q : D → Store → Prop} {s s₀ : Shared} {σ₀ : Store} {vs : List Value} (h : CallD C f ds σ Q X) (g : Hg C σ s.heap) (u : Upto s₀ s) (st : Stp [] C.hid C.fs σ₀ s₀.heap σ s.heap) (r : RpAll C.w.params (vw C.hid σ s.heap) vs ds) :
    wpAny (model C.prog C.w) C.A (call f vs) (Post C σ₀ s₀ Q) (PostX C [] σ₀ s₀ X) s := by
  refine wpAny_mono (h.out s vs g r) ?_ ?_
  · rintro v s' ⟨d, σ', a, b, c, r, q⟩
    exact ⟨d, σ', u.trans a, b, st.trans c, r, q⟩
  · rintro e s' ⟨m, σ', a, b, c, q⟩
    exact ⟨m, σ', u.trans a, b, st.trans c, q⟩

/-- a call of a global def or class -/
theorem ev_call {x : Str} {p pos : Pos} {f : Addr} {a : Expr} {as : List Expr} {Q : D → Store → Prop} (hk : env.kindOf x = some .globalImplicit) (hv : nsIn C.K mainGlobals x = some (some (.ref f))) (hkeep : keepIn C.K (.ref f) = true)
    (h : Evs C env ρ pos (a :: as) σ (fun ds σ₁ => CallD C (.ref f) ds σ₁ Q X) X) (hd : (x == ("__debug__" : Str)) = false)
    (he : starEach (a :: as) env = (false, eval a env) :: starEach as env) (hp : (backTo pos (starEach as env)).any (·.1) = false) : Ev C env ρ (.Call (.Name x p) (a :: as) [] pos) σ Q X := by
  refine ⟨fun s g en => ?_⟩
  refine wpAny_Call_NameR ?_
  refine Jd.seq (P := fun v s₁ => wpAny (model C.prog C.w) C.A (callWith pos v [] (backTo pos (starEach (a :: as) env)) []) (Post C σ s Q) (PostX C [] σ s X) s₁) g en (.refl s) (.refl g.hσ g.ok.hids) (R := fun V v (d : D) => v = .ref f) (t := eval (.Name x p) env) (δ := D) ?_
  have base : Jd C (fun V v (d : D) => v = Value.ref f) (eval (.Name x p) env) env ρ σ (fun _ σ₁ => σ₁ = σ) X := by
    refine ⟨fun s g e => ?_⟩
    obtain ⟨mg, hg⟩ := g.ok.wd.g
    refine Name_function_global e.kind hk (loadGlobal_global (mg := mg) (v := .ref f) ?_ (mg_of g.ok.wd.X hg hv) ?_) hd
    · rw [e.globals]
      exact hg.keeps g.stays
    · exact ⟨.none, σ, .refl s, g, .refl g.hσ g.ok.hids, rfl, rfl⟩
  refine base.mono (fun _ σ₁ q => ?_) fun _ _ x => x
  subst q
  intro v s₁ u₁ g₁ e₁ st₁ _ r
  subst r
  refine callWith_K g₁.K_in hkeep ?_ he hp
  refine Jd.seq g₁ e₁ u₁ st₁ (h.mono (fun ds σ₂ q => ?_) fun _ _ x => x)
  intro vs s₂ u₂ g₂ e₂ st₂ _ r₂
  exact ⟨g₂.K_in, q.seq g₂ u₂ st₂ r₂⟩

/-- a built-in called -/
theorem ev_callB {x : Str} {p pos : Pos} {id : String} {a : Expr} {as : List Expr} {Q : D → Store → Prop} (hk : env.kindOf x = some .globalImplicit) (hv : nsIn C.K mainGlobals x = some none) (hb : bootBuiltins x = some (.builtin id)) (hn : x ≠ "__name__") (hbi : env.builtins = builtinsNs)
    (h : Evs C env ρ pos (a :: as) σ (fun ds σ₁ => CallD C (.builtin id) ds σ₁ Q X) X) (hd : (x == ("__debug__" : Str)) = false)
    (he : starEach (a :: as) env = (false, eval a env) :: starEach as env) (hp : (backTo pos (starEach as env)).any (·.1) = false) : Ev C env ρ (.Call (.Name x p) (a :: as) [] pos) σ Q X := by
  refine ⟨fun s g en => ?_⟩
  obtain ⟨mg, hg⟩ := g.ok.wd.g
  obtain ⟨mb, hb1, hb2⟩ := g.ok.wd.b
  refine wpAny_Call_NameR (Name_function_global en.kind hk (loadGlobal_builtin (mg := mg) (mb := mb) (v := .builtin id) ?_ (mg_none_of g.ok.wd.X hg hv) ?_ ((hb2 x hn).trans hb) ?_) hd)
  · rw [en.globals]; exact hg.keeps g.stays
  · rw [hbi]; exact hb1.keeps g.stays
  · refine PyProof.Rows.callWith_builtin1 ?_ he hp
    refine Jd.seq g en (.refl s) (.refl g.hσ g.ok.hids) (h.mono (fun ds σ₂ q => ?_) fun _ _ x => x)
    intro vs s₂ u₂ g₂ e₂ st₂ _ r₂
    exact q.seq g₂ u₂ st₂ r₂
theorem ev_callT {x : Str} {p pos : Pos} {T : String} {a : Expr} {as : List Expr} {Q : D → Store → Prop} (hk : env.kindOf x = some .globalImplicit) (hv : nsIn C.K mainGlobals x = some none) (hb : bootBuiltins x = some (.type T)) (hn : x ≠ "__name__") (hbi : env.builtins = builtinsNs)
    (h : Evs C env ρ pos (a :: as) σ (fun ds σ₁ => CallD C (.type T) ds σ₁ Q X) X) (hd : (x == ("__debug__" : Str)) = false)
    (he : starEach (a :: as) env = (false, eval a env) :: starEach as env) (hp : (backTo pos (starEach as env)).any (·.1) = false) : Ev C env ρ (.Call (.Name x p) (a :: as) [] pos) σ Q X := by
  refine ⟨fun s g en => ?_⟩
  obtain ⟨mg, hg⟩ := g.ok.wd.g
  obtain ⟨mb, hb1, hb2⟩ := g.ok.wd.b
  refine wpAny_Call_NameR (Name_function_global en.kind hk (loadGlobal_builtin (mg := mg) (mb := mb) (v := .type T) ?_ (mg_none_of g.ok.wd.X hg hv) ?_ ((hb2 x hn).trans hb) ?_) hd)
  · rw [en.globals]; exact hg.keeps g.stays
  · rw [hbi]; exact hb1.keeps g.stays
  · refine PyProof.Rows.callWith_type1 ?_ he hp
    refine Jd.seq g en (.refl s) (.refl g.hσ g.ok.hids) (h.mono (fun ds σ₂ q => ?_) fun _ _ x => x)
    intro vs s₂ u₂ g₂ e₂ st₂ _ r₂
    exact q.seq g₂ u₂ st₂ r₂

theorem He.weak {P : Params} {hid : List Addr} {ρ' : Rho} {V : View} {h : Heap} (e : He P hid env ρ V h) (k : ∀ x d, ρ'.lookup x = some d → ρ.lookup x = some d) : He P hid env ρ' V h :=
  ⟨e.kind, e.globals, e.ins, e.ns, e.cell, e.inj, fun x d hx => e.rd x d (k x d hx)⟩
def Weak (ρ' ρ : Rho) : Prop := ∀ p ∈ ρ', ρ.lookup p.1 = some p.2
theorem lookup_pair {β : Type} {x : Str} {v : β} : ∀ {l : List (Str × β)}, l.lookup x = some v → (x, v) ∈ l
  | [], e => by cases e
  | (y, b) :: r, e => by
    rw [List.lookup_cons] at e
    split at e
    · rename_i z
      rw [beq_iff_eq] at z
      cases e
      simp [z]
    · exact List.mem_cons_of_mem _ (lookup_pair e)
theorem Weak.out {ρ' : Rho} (w : Weak ρ' ρ) : ∀ x d, ρ'.lookup x = some d → ρ.lookup x = some d := fun x d e => w (x, d) (lookup_pair e)
theorem exs_weak {ρ' : Rho} {t : Sem Flow} {Q : FD → Rho → Store → Prop} (w : Weak ρ' ρ) (h : Xx C env ρ' t σ Q X) : Xx C env ρ t σ Q X := ⟨fun s g e => h.out s g (e.weak w.out)⟩

def NX : XP := fun _ _ => False
def Turn (n : Nat) (I : Nat → Rho → Store → Prop) (Q : FD → Rho → Store → Prop) : FD → Rho → Store → Prop
  | .next, ρ, σ => ∃ m, m < n ∧ ∃ ρ', Weak ρ' ρ ∧ I m ρ' σ
  | .cont, ρ, σ => ∃ m, m < n ∧ ∃ ρ', Weak ρ' ρ ∧ I m ρ' σ
  | .brk, ρ, σ => Q .next ρ σ
  | .ret d, ρ, σ => Q (.ret d) ρ σ
theorem nx_false {own : List Addr} {s : Shared} {e : Value} {s' : Shared} (h : PostX C own σ s NX e s') : False := by
  obtain ⟨_, _, _, _, _, q⟩ := h
  exact q

inductive WInv (C : Ctx) (env : Env) (I : Nat → Rho → Store → Prop) (σ : Store) (s : Shared) (k : Nat) (s' : Shared) : Prop
  | mk (ρ' : Rho) (σ' : Store) : I k ρ' σ' → Upto s s' → Hg C σ' s'.heap → He C.w.params C.hid env ρ' (vw C.hid σ' s'.heap) s'.heap → Stp (ownOf env) C.hid C.fs σ s.heap σ' s'.heap → WInv C env I σ s k s'
def WFl (C : Ctx) (env : Env) (I : Nat → Rho → Store → Prop) (Q : FD → Rho → Store → Prop) (σ : Store) (s : Shared) (k : Nat) (s₃ : Shared) : Flow → Prop
  | .next | .cont => ∃ m, m < k ∧ WInv C env I σ s m s₃
  | .brk => XPost C env σ s Q .next s₃
  | .ret v => XPost C env σ s Q (.ret v) s₃
theorem ex_while {test : Expr} {body : List Stmt} {pos : Pos} {Q : FD → Rho → Store → Prop} (I : Nat → Rho → Store → Prop) {n : Nat} {ρ₀ : Rho} (hw : Weak ρ₀ ρ) (h0 : I n ρ₀ σ)
    (turn : ∀ n ρ σ, I n ρ σ → Tst C env ρ test σ (fun b σ₁ => if b = true then Exs C env ρ body σ₁ (Turn n I Q) NX else Q .next ρ σ₁) NX) : Ex C env ρ (.While test body [] pos) σ Q X := by
  refine ⟨fun s g en => ?_⟩
  refine wpAny_While (codeAny_whileLoop (WInv C env I σ s) ?_ n ⟨ρ₀, σ, h0, .refl s, g, en.weak hw.out, .start g en⟩)
  rintro k s₁ ⟨ρ₁, σ₁, hI, u₁, g₁, e₁, st₁⟩
  refine wpAny_mono (Jd.seqX (P := fun b s₂ => wpAny (model C.prog C.w) C.A (if b = true then execs body env else execs [] env) (fun f s₃ => if b = true then WFl C env I Q σ s k s₃ f else XPost C env σ s Q f s₃) (fun _ _ => False) s₂) g₁ e₁ u₁ st₁ ((turn k ρ₁ σ₁ hI).mono (fun b σ₂ q => ?_) fun _ _ x => x)) (fun b s₂ h₂ => ?_) fun e s' h' => (nx_false h').elim
  · intro v s₂ u₂ g₂ e₂ st₂ st r
    cases r
    cases b with
    | true =>
      refine wpAny_mono (Xx.seqX (P := fun f s₃ => WFl C env I Q σ s k s₃ f) g₂ e₂ u₂ st₂ ((show Exs C env ρ₁ body σ₂ (Turn k I Q) NX from q).mono (fun f ρ₃ σ₃ q => ?_) fun _ _ x => x)) (fun f s₃ h₃ => h₃) fun e s' h' => (nx_false h').elim
      intro fl s₃ u₃ g₃ e₃ st₃ r₃
      cases r₃ with
      | next => obtain ⟨m, hm, ρ', w, hI'⟩ := q; exact ⟨m, hm, ρ', σ₃, hI', u₃, g₃, e₃.weak w.out, st₃⟩
      | cont => obtain ⟨m, hm, ρ', w, hI'⟩ := q; exact ⟨m, hm, ρ', σ₃, hI', u₃, g₃, e₃.weak w.out, st₃⟩
      | brk => exact ⟨_, _, _, u₃, g₃, e₃, st₃, .next, q⟩
      | ret r => exact ⟨_, _, _, u₃, g₃, e₃, st₃, .ret r, q⟩
    | false => exact wpAny_execs_nil (env := env) ⟨_, _, _, u₂, g₂, e₂, st₂, .next, q⟩
  · cases b with
    | true => exact wpAny_mono h₂ (fun f s₃ h₃ => by cases f <;> exact h₃) fun _ _ x => x.elim
    | false => exact wpAny_mono h₂ (fun f s₃ h₃ => h₃) fun _ _ x => x.elim

/-- a call that is one pure step -/
theorem CallD.pure {f : Value} {ds : List D} {d : D} {Q : D → Store → Prop} (h : ∀ s vs, Hg C σ s.heap → RpAll C.w.params (vw C.hid σ s.heap) vs ds → Pure1 C σ s (call f vs) d) (q : Q d σ) : CallD C f ds σ Q X :=
  ⟨fun s vs g r => (h s vs g r).use g (.refl s) (.refl g.hσ g.ok.hids) q⟩
end
end
section
section
variable {C : Ctx} {σ : Store}

/-- two ints, an answer at once -/
theorem BinD.ints {f : Value → Value → Sem Value} {i j : Int} {d : D} (h : ∀ (s : Shared) (t u : Tok) (Q E : Value → Shared → Prop), Hg C σ s.heap → (∀ v tk, (∀ V, Rp C.w.params V v d) → Q v { s with toks := tk }) → wpAny (model C.prog C.w) C.A (f (.int i t) (.int j u)) Q E s) : BinD C σ f (.int i) (.int j) d := by
  refine ⟨fun s va vb g ra rb => ?_⟩
  obtain ⟨t, rfl⟩ := ra.inv
  obtain ⟨u, rfl⟩ := rb.inv
  exact Pure1.here fun Q E k => h s _ _ Q E g fun v tk r => k v tk (r _)

theorem add_ii {i j : Int} : BinD C σ (binaryOp .Add) (.int i) (.int j) (.int (i + j)) := .ints fun s t u Q E _ k => PySem.P.add_int (k _ _ fun V => .int _ _)
theorem sub_ii {i j : Int} : BinD C σ (binaryOp .Sub) (.int i) (.int j) (.int (i - j)) := .ints fun s t u Q E _ k => PySem.P.sub_int (k _ _ fun V => .int _ _)
theorem iadd_ii {i j : Int} : BinD C σ (inplaceOp .Add) (.int i) (.int j) (.int (i + j)) := .ints fun s t u Q E _ k => PySem.P.iadd_int (k _ _ fun V => .int _ _)
theorem isub_ii {i j : Int} : BinD C σ (inplaceOp .Sub) (.int i) (.int j) (.int (i - j)) := .ints fun s t u Q E _ k => PySem.P.isub_int (k _ _ fun V => .int _ _)
theorem mod_ii {i j : Int} (hj : 0 < j) : BinD C σ (binaryOp .Mod) (.int i) (.int j) (.int (i % j)) := .ints fun s t u Q E _ k => by
  rw [← Int.fmod_eq_emod_of_nonneg i (Int.le_of_lt hj)] at k
  exact PyProof.Rows.mod_int (by omega) (k _ _ fun V => .int _ _)
theorem log2_small {j : Int} (h : j.natAbs < 2 ^ 63) : j.natAbs.log2 < 9000 := by
  by_cases hn : j.natAbs = 0
  · rw [hn]; decide
  · have : j.natAbs.log2 < 63 := (Nat.log2_lt hn).mpr h
    omega
theorem fdiv_ii {i j : Int} (hj : 0 < j) (hs : j.natAbs < 2 ^ 63) : BinD C σ (binaryOp .FloorDiv) (.int i) (.int j) (.int (i / j)) := .ints fun s t u Q E _ k => by
  rw [← Int.fdiv_eq_ediv_of_nonneg i (Int.le_of_lt hj)] at k
  exact PyProof.Rows.floordiv_int (by omega) (k _ _ fun V => .int _ _) (.inl (PyProof.noPylong_of_log2 (log2_small hs)))
theorem bits_small {i : Int} (h : i.natAbs < 2 ^ 63) : ¬ Builtin.Int.intBits i > shortFactorBits := by
  unfold Builtin.Int.intBits
  split
  · decide
  · rename_i hz
    have hz' : i ≠ 0 := by simpa using hz
    have hn : i.natAbs ≠ 0 := by omega
    have : i.natAbs.log2 < 63 := (Nat.log2_lt hn).mpr h
    show ¬ i.natAbs.log2 + 1 > 64
    omega
theorem mul_l {i j : Int} (hi : i.natAbs < 2 ^ 63) : BinD C σ (binaryOp .Mult) (.int i) (.int j) (.int (i * j)) := .ints fun s t u Q E _ k => PySem.P.mul_int (k _ _ fun V => .int _ _) (by
  unfold IntMulOk
  rw [decide_eq_false (bits_small hi)]
  simp)
theorem mul_r {i j : Int} (hj : j.natAbs < 2 ^ 63) : BinD C σ (binaryOp .Mult) (.int i) (.int j) (.int (i * j)) := .ints fun s t u Q E _ k => PySem.P.mul_int (k _ _ fun V => .int _ _) (by
  unfold IntMulOk
  rw [decide_eq_false (bits_small hj)]
  simp)
theorem pow_ii {i j : Int} (h0 : 0 ≤ j) (hj : j ≤ 1000) (hi : i.natAbs < 2 ^ 63) : BinD C σ (binaryOp .Pow) (.int i) (.int j) (.int (i ^ j.toNat)) := .ints fun s t u Q E _ k => PyProof.Rows.pow_int_small h0 (by omega) (by omega) (k _ _ fun V => .int _ _)
theorem eq_ii {i j : Int} : BinD C σ (compareOp .Eq) (.int i) (.int j) (.bool (i == j)) := .ints fun s t u Q E _ k => PySem.P.eq_int (k _ s.toks fun V => .bool _)
theorem ne_ii {i j : Int} : BinD C σ (compareOp .NotEq) (.int i) (.int j) (.bool (i != j)) := .ints fun s t u Q E _ k => PySem.P.ne_int (k _ s.toks fun V => .bool _)
theorem lt_ii {i j : Int} : BinD C σ (compareOp .Lt) (.int i) (.int j) (.bool (decide (i < j))) := .ints fun s t u Q E _ k => PySem.P.lt_int (k _ s.toks fun V => .bool _)
theorem le_ii {i j : Int} : BinD C σ (compareOp .LtE) (.int i) (.int j) (.bool (decide (i ≤ j))) := .ints fun s t u Q E _ k => PySem.P.le_int (k _ s.toks fun V => .bool _)
theorem gt_ii {i j : Int} : BinD C σ (compareOp .Gt) (.int i) (.int j) (.bool (decide (j < i))) := .ints fun s t u Q E _ k => PySem.P.gt_int (k _ s.toks fun V => .bool _)
theorem ge_ii {i j : Int} : BinD C σ (compareOp .GtE) (.int i) (.int j) (.bool (decide (j ≤ i))) := .ints fun s t u Q E _ k => PySem.P.ge_int (k _ s.toks fun V => .bool _)

def D.isNone : D → Bool
  | .none => true
  | _ => false
def D.notGlob : D → Prop
  | .glob _ => False
  | _ => True
theorem rp_isNone {P : Params} {V : View} {v : Value} {d : D} (r : Rp P V v d) (h : d.notGlob) : (v == .none) = d.isNone := by
  cases r <;> first | exact h.elim | rfl
theorem is_n {d : D} (h : d.notGlob) : BinD C σ (compareOp .Is) d .none (.bool d.isNone) := by
  refine ⟨fun s va vb g ra rb => ?_⟩
  obtain rfl := rb.inv
  refine Pure1.here fun Q E k => PySem.is_none ?_
  rw [rp_isNone ra h]
  exact k _ s.toks (.bool _)
theorem isnot_n {d : D} (h : d.notGlob) : BinD C σ (compareOp .IsNot) d .none (.bool (!d.isNone)) := by
  refine ⟨fun s va vb g ra rb => ?_⟩
  obtain rfl := rb.inv
  refine Pure1.here fun Q E k => PySem.isNot_none ?_
  rw [rp_isNone ra h]
  exact k _ s.toks (.bool _)

/-- a tuple's place, written -/
theorem sub_tup {value slice : Expr} {ds : List D} {i : Int} {d : D} (h0 : 0 ≤ i) (hi : i < 1000) (hd : ds[i.toNat]? = some d) (hs : ∀ t u, subscripted slice false (.ref t) (.int i u) = operate [.ref t, .int i u] (getItem (.ref t) (.int i u))) : BinD C σ (subscriptTail value slice) (.tup ds) (.int i) d := by
  refine ⟨fun s va vb g ra rb => ?_⟩
  obtain ⟨u, rfl⟩ := rb.inv
  obtain ⟨a, o, vs, n, rfl, ht, hc, he, hr⟩ := ra.inv
  · obtain ⟨v, hv, r⟩ := hr.get hd
    have hl := hr.length
    refine Pure1.here fun Q E k => ?_
    refine item_tupleT (j := i.toNat) ⟨_, (vw_some.mp ht).2.2, hc, _, he⟩ (by omega) (by omega) ?_ hv (k v s.toks r) (hs _ _)
    have hlt : i.toNat < ds.length := (List.getElem?_eq_some_iff.mp hd).1
    rw [hl]
    have e1 : ¬ i < 0 := by omega
    unfold PySem.seqIndex?
    simp only [if_neg e1]
    rw [if_pos (by simp; omega)]
end
theorem ite_tt {A B : Prop} (h : A) : if true = true then A else B := h
theorem ite_ff {A B : Prop} (h : B) : if false = true then A else B := h
theorem ite_dec {p : Prop} [Decidable p] {A B : Prop} (ha : p → A) (hb : ¬ p → B) : if decide p = true then A else B := by
  by_cases h : p
  · rw [if_pos (decide_eq_true h)]; exact ha h
  · rw [if_neg (by rw [decide_eq_false h]; decide)]; exact hb h
theorem ite_eqI {i j : Int} {A B : Prop} (ha : i = j → A) (hb : i ≠ j → B) : if (i == j) = true then A else B := by
  by_cases h : i = j
  · rw [if_pos (by simpa using h)]; exact ha h
  · rw [if_neg (by simpa using h)]; exact hb h
theorem ite_neI {i j : Int} {A B : Prop} (ha : i ≠ j → A) (hb : i = j → B) : if (i != j) = true then A else B := by
  by_cases h : i = j
  · rw [if_neg (by simpa using h)]; exact hb h
  · rw [if_pos (by simpa using h)]; exact ha h
theorem ite_not {b : Bool} {A B : Prop} (h : if b = true then B else A) : if (!b) = true then A else B := by
  cases b <;> exact h
theorem ite_b {b : Bool} {A B : Prop} (ha : b = true → A) (hb : b = false → B) : if b = true then A else B := by
  cases b
  · exact hb rfl
  · exact ha rfl
section
variable {C : Ctx} {env : Env} {ρ : Rho} {σ : Store} {X : XP} {rest : List Stmt} {Q : FD → Rho → Store → Prop}
theorem after_next (h : Exs C env ρ rest σ Q X) : After C env rest Q X .next ρ σ := h
theorem after_ret {d : D} (h : Q (.ret d) ρ σ) : After C env rest Q X (.ret d) ρ σ := h
theorem after_brk (h : Q .brk ρ σ) : After C env rest Q X .brk ρ σ := h
theorem after_cont (h : Q .cont ρ σ) : After C env rest Q X .cont ρ σ := h
theorem back_ret {Q : D → Store → Prop} {d : D} (h : Q d σ) : Back Q (.ret d) ρ σ := h
theorem back_next {Q : D → Store → Prop} (h : Q .none σ) : Back Q .next ρ σ := h
theorem turn_ret {n : Nat} {I : Nat → Rho → Store → Prop} {d : D} (h : Q (.ret d) ρ σ) : Turn n I Q (.ret d) ρ σ := h
end
end
section
section
variable {C : Ctx} {σ : Store} {X : XP} {Q : D → Store → Prop} {name qual : Str} {params : Arguments} {body : List Stmt} {scope : Scope} {dV kV doc pm cdv ct oc : Value} {an od : Option Addr} {osl : Array (Option Value)} {f : Addr}
theorem len1 {α : Type} {vs : List α} (h : vs.length = 1) : ∃ x, vs = [x] := List.length_eq_one_iff.mp h
theorem len2 {α : Type} {vs : List α} (h : vs.length = 2) : ∃ x y, vs = [x, y] := by
  cases vs with
  | nil => cases h
  | cons x vs => obtain ⟨y, rfl⟩ := len1 (Nat.succ.inj h); exact ⟨x, y, rfl⟩
theorem len3 {α : Type} {vs : List α} (h : vs.length = 3) : ∃ x y z, vs = [x, y, z] := by
  cases vs with
  | nil => cases h
  | cons x vs => obtain ⟨y, z, rfl⟩ := len2 (Nat.succ.inj h); exact ⟨x, y, z, rfl⟩
theorem call1 {n1 : Str} {d1 : D} (ho : C.K.lookup f = some ⟨oc, od, .func (fnOf name qual params body scope dV kV doc pm an cdv ct), osl⟩) (hcd : codeIn C.K cdv qual = true) (hfu : 0 < C.fuel)
    (hb : ∀ (s : Shared) (x : Value), BindsTo s (fnOf name qual params body scope dV kV doc pm an cdv ct) ⟨[x], []⟩ [(n1, x)]) (hl : scope.names.lookup n1 = some .local)
    (h : ∀ L', Exs (C.enter (envOf qual scope L' f cdv) [L'] (C.fuel - 1)) (envOf qual scope L' f cdv) [(n1, d1)] body σ (Back Q) X)
    (hco : scope.isCoroutine = false) (hgen : scope.isGenerator = false) (hk : scope.kind = .function) (hcell : ∀ x ∈ scope.names, x.2 ≠ .cell) : CallD C (.ref f) [d1] σ Q X :=
  call_def (ns := [n1]) ho hcd hfu (fun s vs h => by obtain ⟨x, rfl⟩ := len1 h; exact hb s x) rfl (fun y hy => by rw [List.mem_singleton.mp hy]; exact hl) h hco hgen hk hcell
theorem call2 {n1 n2 : Str} {d1 d2 : D} (ho : C.K.lookup f = some ⟨oc, od, .func (fnOf name qual params body scope dV kV doc pm an cdv ct), osl⟩) (hcd : codeIn C.K cdv qual = true) (hfu : 0 < C.fuel)
    (hb : ∀ (s : Shared) (x y : Value), BindsTo s (fnOf name qual params body scope dV kV doc pm an cdv ct) ⟨[x, y], []⟩ [(n1, x), (n2, y)]) (hl : scope.names.lookup n1 = some .local) (hl2 : scope.names.lookup n2 = some .local)
    (h : ∀ L', Exs (C.enter (envOf qual scope L' f cdv) [L'] (C.fuel - 1)) (envOf qual scope L' f cdv) [(n2, d2), (n1, d1)] body σ (Back Q) X)
    (hco : scope.isCoroutine = false) (hgen : scope.isGenerator = false) (hk : scope.kind = .function) (hcell : ∀ x ∈ scope.names, x.2 ≠ .cell) : CallD C (.ref f) [d1, d2] σ Q X :=
  call_def (ns := [n1, n2]) ho hcd hfu (fun s vs h => by obtain ⟨x, y, rfl⟩ := len2 h; exact hb s x y) rfl (fun y hy => by
    rcases List.mem_cons.mp hy with rfl | hy
    · exact hl
    · rw [List.mem_singleton.mp hy]; exact hl2) h hco hgen hk hcell

theorem is_none_none : BinD C σ (compareOp .Is) .none .none (.bool true) := is_n trivial
theorem is_none_tup {ds : List D} : BinD C σ (compareOp .Is) (.tup ds) .none (.bool false) := is_n trivial
theorem is_none_int {i : Int} : BinD C σ (compareOp .Is) (.int i) .none (.bool false) := is_n trivial
theorem isnt_none_none : BinD C σ (compareOp .IsNot) .none .none (.bool false) := isnot_n trivial
theorem isnt_none_tup {ds : List D} : BinD C σ (compareOp .IsNot) (.tup ds) .none (.bool true) := isnot_n trivial
theorem isnt_none_int {i : Int} : BinD C σ (compareOp .IsNot) (.int i) .none (.bool true) := isnot_n trivial
theorem neg_i {i : Int} : UnD C σ (unaryOp .USub) (.int i) (.int (-i)) := by
  refine ⟨fun s va g r => ?_⟩
  obtain ⟨t, rfl⟩ := r.inv
  exact Pure1.here fun Q E k => PySem.P.neg_int (k _ _ (.int _ _))
theorem abs_i {i : Int} (q : Q (.int (if i < 0 then -i else i)) σ) : CallD C (.builtin "abs") [.int i] σ Q X := by
  refine CallD.pure (d := .int (if i < 0 then -i else i)) (fun s vs g r => ?_) q
  obtain ⟨_, rfl, t, rfl⟩ := r.one
  exact Pure1.here fun Q E k => PyProof.Rows.call_abs_int fun u tk => k _ tk (.int _ _)
theorem max_ii {i j : Int} (q : Q (.int (if j > i then j else i)) σ) : CallD C (.builtin "max") [.int i, .int j] σ Q X := by
  refine CallD.pure (d := .int (if j > i then j else i)) (fun s vs g r => ?_) q
  obtain ⟨_, _, rfl, r1, r2⟩ := r.two
  obtain ⟨t, rfl⟩ := r1.inv
  obtain ⟨t, rfl⟩ := r2.inv
  · · intro Q E k
      refine max_two_ints g.ok.handled fun h' tk hk => ?_
      split
      · rename_i h
        rw [if_pos h] at k
        exact k _ h' tk hk (.int _ _)
      · rename_i h
        rw [if_neg h] at k
        exact k _ h' tk hk (.int _ _)
theorem gcd_step {x y : Int} (hx : 0 ≤ x) (hy : 0 ≤ y) : Int.gcd y (x % y) = Int.gcd x y := by
  obtain ⟨m, rfl⟩ := Int.eq_ofNat_of_zero_le hx
  obtain ⟨n, rfl⟩ := Int.eq_ofNat_of_zero_le hy
  show Nat.gcd n ((m : Int) % (n : Int)).natAbs = Nat.gcd m n
  have : ((m : Int) % (n : Int)).natAbs = m % n := by omega
  rw [this, Nat.gcd_comm m n]
  exact (Nat.gcd_rec n m ▸ Nat.gcd_comm n (m % n))
end
section
variable {C : Ctx} {env : Env} {ρ : Rho} {σ : Store} {X : XP}
theorem use_bin {f : Value → Value → Sem Value} {a b d : D} {Q : D → Prop} (h : BinD C σ f a b d) (q : Q d) : ∃ d, BinD C σ f a b d ∧ Q d := ⟨d, h, q⟩
theorem use_binB {f : Value → Value → Sem Value} {a b : D} {c : Bool} {Q : Bool → Prop} (h : BinD C σ f a b (.bool c)) (q : Q c) : ∃ c, BinD C σ f a b (.bool c) ∧ Q c := ⟨c, h, q⟩
theorem use_un {f : Value → Sem Value} {a d : D} {Q : D → Prop} (h : UnD C σ f a d) (q : Q d) : ∃ d, UnD C σ f a d ∧ Q d := ⟨d, h, q⟩
theorem use_tru {a : D} {b : Bool} {Q : Bool → Prop} (h : TruD C σ a b) (q : Q b) : ∃ b, TruD C σ a b ∧ Q b := ⟨b, h, q⟩
theorem use_pair {d a b : D} {Q : D → D → Prop} (h : d = .tup [a, b]) (q : Q a b) : ∃ a b, d = .tup [a, b] ∧ Q a b := ⟨a, b, h, q⟩
end
theorem ite_decT {p : Prop} [Decidable p] {A B : Prop} (h : p) (ha : A) : if decide p = true then A else B := by rw [if_pos (decide_eq_true h)]; exact ha
theorem ite_decF {p : Prop} [Decidable p] {A B : Prop} (h : ¬ p) (hb : B) : if decide p = true then A else B := by rw [if_neg (by rw [decide_eq_false h]; decide)]; exact hb
theorem ite_eqT {i j : Int} {A B : Prop} (h : i = j) (ha : A) : if (i == j) = true then A else B := by rw [if_pos (by simpa using h)]; exact ha
theorem ite_eqF {i j : Int} {A B : Prop} (h : i ≠ j) (hb : B) : if (i == j) = true then A else B := by rw [if_neg (by simpa using h)]; exact hb
theorem ite_neT {i j : Int} {A B : Prop} (h : i ≠ j) (ha : A) : if (i != j) = true then A else B := by rw [if_pos (by simpa using h)]; exact ha
theorem ite_neF {i j : Int} {A B : Prop} (h : i = j) (hb : B) : if (i != j) = true then A else B := by rw [if_neg (by simpa using h)]; exact hb
theorem ite_pair {a b c d : Int} {A B : Prop} (ha : a = c ∧ b = d → A) (hb : ¬ (a = c ∧ b = d) → B) : if (a == c && b == d) = true then A else B := by
  by_cases h : a = c ∧ b = d
  · rw [if_pos (by simpa using h)]; exact ha h
  · rw [if_neg (by simpa using h)]; exact hb h
theorem qb {a b : Bool} {Q : D → Store → Prop} {σ : Store} (h : a = true ↔ b = true) (q : Q (.bool a) σ) : Q (.bool b) σ := by
  have : a = b := by cases a <;> cases b <;> simp_all
  rw [← this]; exact q
theorem qi {a b : Int} {Q : D → Store → Prop} {σ : Store} (h : a = b) (q : Q (.int a) σ) : Q (.int b) σ := h ▸ q
theorem qr {a b c d : Int} {Q : D → Store → Prop} {σ : Store} (h : a = c) (h2 : b = d) (q : Q (.tup [.int a, .int b]) σ) : Q (.tup [.int c, .int d]) σ := h ▸ h2 ▸ q
end
section
mutual
def D.py : D → PyData
  | .none => .none
  | .bool b => .bool b
  | .int i => .int i
  | .str x => .str x
  | .tup ds => .tuple (D.pys ds)
  | .lst ds => .list (D.pys ds)
  | .dict _ _ => .none
  | .inst _ _ _ => .none
  | .rng _ _ => .none
  | .mut _ => .none
  | .glob _ => .none
def D.pys : List D → List PyData
  | [] => []
  | d :: ds => D.py d :: D.pys ds
end
mutual
def D.plain : D → Bool
  | .none => true
  | .bool _ => true
  | .int _ => true
  | .str x => PyData.strOk x
  | .tup ds => D.plains ds
  | .lst ds => D.plains ds
  | .dict _ _ => false
  | .inst _ _ _ => false
  | .rng _ _ => false
  | .mut _ => false
  | .glob _ => false
def D.plains : List D → Bool
  | [] => true
  | d :: ds => D.plain d && D.plains ds
end
theorem plains_cons {d : D} {ds : List D} (h : D.plains (d :: ds) = true) : d.plain = true ∧ D.plains ds = true := by
  rw [D.plains, Bool.and_eq_true] at h; exact h
theorem no_plain {p : Prop} (h : false = true) : p := by cases h
theorem rp_reads {P : Params} {V : View} {h : Heap} (hv : ∀ a o, V a = some o → h.get? a = some o) {v : Value} {d : D} (r : Rp P V v d) : d.plain = true → ∃ as, Reads h v d.py as :=
  Rp.rec (motive_1 := fun v d _ => d.plain = true → ∃ as, Reads h v d.py as) (motive_2 := fun vs ds _ => D.plains ds = true → ∃ as, ReadsAll h vs (D.pys ds) as)
    (fun _ => ⟨_, Reads.none⟩) (fun b _ => ⟨_, Reads.bool b⟩) (fun i t _ => ⟨_, Reads.int i t⟩) (fun x t _ => ⟨_, Reads.str x t⟩)
    (fun he hc hd _ ih hp => by
      obtain ⟨as, q⟩ := ih hp
      rw [D.py]
      exact ⟨as, .tuple (hv _ _ he) hc hd q⟩)
    (fun he _ ih hp => by
      obtain ⟨as, q⟩ := ih hp
      rw [D.py]
      exact ⟨_, .list (hv _ _ he) rfl rfl q⟩)
    (fun _ _ _ _ _ hp => no_plain hp) (fun _ _ _ _ _ hp => no_plain hp) (fun _ hp => no_plain hp) (fun _ hp => no_plain hp) (fun _ hp => no_plain hp)
    (fun _ => ⟨_, ReadsAll.nil⟩)
    (fun _ _ r rs hp => by
      obtain ⟨as, q⟩ := r (plains_cons hp).1
      obtain ⟨bs, p⟩ := rs (plains_cons hp).2
      rw [D.pys]
      exact ⟨_, .cons q p⟩) r
theorem rps_reads {P : Params} {V : View} {h : Heap} (hv : ∀ a o, V a = some o → h.get? a = some o) {vs : List Value} {ds : List D} (r : RpAll P V vs ds) (hp : D.plains ds = true) : ∃ as, ReadsAll h vs (D.pys ds) as := by
  induction ds generalizing vs with
  | nil => obtain rfl := r.inv; exact ⟨_, ReadsAll.nil⟩
  | cons d ds ih =>
    obtain ⟨v, us, rfl, a, rs⟩ := r.inv
    obtain ⟨as, q⟩ := rp_reads hv a (plains_cons hp).1
    obtain ⟨bs, p⟩ := ih rs (plains_cons hp).2
    rw [D.pys]
    exact ⟨_, .cons q p⟩
theorem vw_get {hid : List Addr} {σ : Store} {h : Heap} : ∀ a o, vw hid σ h a = some o → h.get? a = some o := fun a o e => (vw_some.mp e).2.2
theorem plain_both : (∀ d : D, d.plain = true → d.py.canLay0 = true ∧ PyData.eqv d.py d.py = true) ∧ ∀ ds : List D, D.plains ds = true → PyData.canLayAll0 (D.pys ds) = true ∧ PyData.eqvAll (D.pys ds) (D.pys ds) = true := by
  have go : ∀ d : D, d.plain = true → d.py.canLay0 = true ∧ PyData.eqv d.py d.py = true := fun d =>
    D.rec (motive_1 := fun d => d.plain = true → d.py.canLay0 = true ∧ PyData.eqv d.py d.py = true) (motive_2 := fun ds => D.plains ds = true → PyData.canLayAll0 (D.pys ds) = true ∧ PyData.eqvAll (D.pys ds) (D.pys ds) = true)
      (fun _ => ⟨rfl, rfl⟩) (fun b _ => ⟨rfl, by cases b <;> rfl⟩) (fun i _ => ⟨rfl, by simp [D.py, PyData.eqv]⟩) (fun x h => ⟨h, by simp [D.py, PyData.eqv]⟩)
      (fun ds ih h => by rw [D.py, PyData.canLay0, PyData.eqv]; exact ih h) (fun ds ih h => by rw [D.py, PyData.canLay0, PyData.eqv]; exact ih h)
      (fun _ _ _ h => no_plain h) (fun _ _ _ _ h => no_plain h) (fun _ _ h => no_plain h) (fun _ h => no_plain h) (fun _ h => no_plain h)
      (fun _ => ⟨rfl, rfl⟩) (fun d ds h hs hp => by
        rw [D.pys, PyData.canLayAll0, PyData.eqvAll, (h (plains_cons hp).1).1, (h (plains_cons hp).1).2, (hs (plains_cons hp).2).1, (hs (plains_cons hp).2).2]
        exact ⟨rfl, rfl⟩) d
  refine ⟨go, fun ds => ?_⟩
  induction ds with
  | nil => exact fun _ => ⟨rfl, rfl⟩
  | cons d ds ih =>
    intro hp
    rw [D.pys, PyData.canLayAll0, PyData.eqvAll, (go d (plains_cons hp).1).1, (go d (plains_cons hp).1).2, (ih (plains_cons hp).2).1, (ih (plains_cons hp).2).2]
    exact ⟨rfl, rfl⟩
theorem plain_lay (d : D) (h : d.plain = true) : d.py.canLay0 = true := (plain_both.1 d h).1
theorem plains_lay (ds : List D) (h : D.plains ds = true) : PyData.canLayAll0 (D.pys ds) = true := (plain_both.2 ds h).1
theorem eqv_self (d : D) (h : d.plain = true) : PyData.eqv d.py d.py = true := (plain_both.1 d h).2
section
variable {C : Ctx} {σ : Store}
theorem eq_dd {a b : D} (ha : a.plain = true) (hb : b.plain = true) (da : a.py.depth ≤ 64) (db : b.py.depth ≤ 64) : BinD C σ (compareOp .Eq) a b (.bool (PyData.eqv a.py b.py)) := by
  refine ⟨fun s va vb g ra rb => Pure1.here fun Q E k => ?_⟩
  obtain ⟨as, r1⟩ := rp_reads vw_get ra ha
  obtain ⟨bs, r2⟩ := rp_reads vw_get rb hb
  have hu := g.ok.units
  refine eq_dataH r1 r2 ?_ ?_ (by omega) (k _ s.toks (.bool _))
  · unfold SeqAt.shaped; rw [plain_lay a ha, Bool.true_and]; exact decide_eq_true da
  · unfold SeqAt.shaped; rw [plain_lay b hb, Bool.true_and]; exact decide_eq_true db
theorem ne_dd {a b : D} (ha : a.plain = true) (hb : b.plain = true) (da : a.py.depth ≤ 64) (db : b.py.depth ≤ 64) : BinD C σ (compareOp .NotEq) a b (.bool (!PyData.eqv a.py b.py)) := by
  refine ⟨fun s va vb g ra rb => Pure1.here fun Q E k => ?_⟩
  obtain ⟨as, r1⟩ := rp_reads vw_get ra ha
  obtain ⟨bs, r2⟩ := rp_reads vw_get rb hb
  have hu := g.ok.units
  refine ne_dataH r1 r2 ?_ ?_ (by omega) (k _ s.toks (.bool _))
  · unfold SeqAt.shaped; rw [plain_lay a ha, Bool.true_and]; exact decide_eq_true da
  · unfold SeqAt.shaped; rw [plain_lay b hb, Bool.true_and]; exact decide_eq_true db
theorem eq_tt {a b c d : Int} : BinD C σ (compareOp .Eq) (.tup [.int a, .int b]) (.tup [.int c, .int d]) (.bool (a == c && b == d)) := by
  have := eq_dd (C := C) (σ := σ) (a := .tup [.int a, .int b]) (b := .tup [.int c, .int d]) (by simp [D.plain, D.plains]) (by simp [D.plain, D.plains]) (by simp [D.py, D.pys, PyData.depth, PyData.depthAll]) (by simp [D.py, D.pys, PyData.depth, PyData.depthAll])
  simpa [D.py, D.pys, PyData.eqv, PyData.eqvAll] using this
theorem ne_tt {a b c d : Int} : BinD C σ (compareOp .NotEq) (.tup [.int a, .int b]) (.tup [.int c, .int d]) (.bool (!(a == c && b == d))) := by
  have := ne_dd (C := C) (σ := σ) (a := .tup [.int a, .int b]) (b := .tup [.int c, .int d]) (by simp [D.plain, D.plains]) (by simp [D.plain, D.plains]) (by simp [D.py, D.pys, PyData.depth, PyData.depthAll]) (by simp [D.py, D.pys, PyData.depth, PyData.depthAll])
  simpa [D.py, D.pys, PyData.eqv, PyData.eqvAll] using this
theorem eq_ss {x y : Str} (hx : PyData.strOk x = true) (hy : PyData.strOk y = true) : BinD C σ (compareOp .Eq) (.str x) (.str y) (.bool (x == y)) := by
  have := eq_dd (C := C) (σ := σ) (a := .str x) (b := .str y) hx hy (by simp [D.py, PyData.depth]) (by simp [D.py, PyData.depth])
  simpa [D.py, PyData.eqv] using this
theorem ne_ss {x y : Str} (hx : PyData.strOk x = true) (hy : PyData.strOk y = true) : BinD C σ (compareOp .NotEq) (.str x) (.str y) (.bool (!(x == y))) := by
  have := ne_dd (C := C) (σ := σ) (a := .str x) (b := .str y) hx hy (by simp [D.py, PyData.depth]) (by simp [D.py, PyData.depth])
  simpa [D.py, PyData.eqv] using this
theorem in_lst {x : D} {ds : List D} (hx : x.plain = true) (hd : D.plains ds = true) (dx : x.py.depth ≤ 64) : BinD C σ (compareOp .In) x (.lst ds) (.bool ((D.pys ds).any fun y => PyData.eqv y x.py)) := by
  refine ⟨fun s va vb g ra rb => Pure1.here fun Q E k => ?_⟩
  obtain ⟨as, r1⟩ := rp_reads vw_get ra hx
  obtain ⟨bs, r2⟩ := rp_reads vw_get rb (by simpa [D.plain] using hd)
  have hu := g.ok.units
  rw [D.py] at r2
  have := Nat.min_le_right (PyData.depthAll (D.pys ds)) x.py.depth
  exact SeqAt.in_list_reads r2 r1 (plains_lay ds hd) (plain_lay x hx) (by omega) (k _ s.toks (.bool _))
theorem in_tup {x : D} {ds : List D} (hx : x.plain = true) (hd : D.plains ds = true) (dx : x.py.depth ≤ 64) : BinD C σ (compareOp .In) x (.tup ds) (.bool ((D.pys ds).any fun y => PyData.eqv y x.py)) := by
  refine ⟨fun s va vb g ra rb => Pure1.here fun Q E k => ?_⟩
  obtain ⟨as, r1⟩ := rp_reads vw_get ra hx
  obtain ⟨bs, r2⟩ := rp_reads vw_get rb (by simpa [D.plain] using hd)
  have hu := g.ok.units
  rw [D.py] at r2
  have := Nat.min_le_right (PyData.depthAll (D.pys ds)) x.py.depth
  exact SeqAt.in_tuple_reads r2 r1 (plains_lay ds hd) (plain_lay x hx) (by omega) (k _ s.toks (.bool _))
theorem notin_tup {x : D} {ds : List D} (hx : x.plain = true) (hd : D.plains ds = true) (dx : x.py.depth ≤ 64) : BinD C σ (compareOp .NotIn) x (.tup ds) (.bool (!(D.pys ds).any fun y => PyData.eqv y x.py)) := by
  refine ⟨fun s va vb g ra rb => Pure1.here fun Q E k => ?_⟩
  obtain ⟨as, r1⟩ := rp_reads vw_get ra hx
  obtain ⟨bs, r2⟩ := rp_reads vw_get rb (by simpa [D.plain] using hd)
  have hu := g.ok.units
  rw [D.py] at r2
  have := Nat.min_le_right (PyData.depthAll (D.pys ds)) x.py.depth
  exact SeqAt.notIn_tuple_reads r2 r1 (plains_lay ds hd) (plain_lay x hx) (by omega) (k _ s.toks (.bool _))
end
end
section
section
variable {prog : Program} {w : World} {A : Around} {s : Shared}
/-- the exception that is made, ahead of its dict -/
abbrev exc0 (fs : Array Value) : Obj := { cls := .ref 58, data := .fields fs }
abbrev exc1 (fs : Array Value) (dx : Addr) : Obj := { cls := .ref 58, dict := some dx, data := .fields fs }

theorem exc_inst {e : Addr} {fs : Array Value} (he : s.heap.get? e = some (exc0 fs)) : InstAt s.heap e (exc0 fs) 58 none := ⟨he, rfl, rfl, trivial⟩

theorem exc_setattr {e : Addr} {fs : Array Value} {v : Value} {E : Value → Shared → Prop} {Q : Unit → Shared → Prop} (X : (frag w.params).In s.heap) (he : s.heap.get? e = some (exc0 fs))
    (h : ∀ h' tk dx es n, (∀ b o, b ≠ e → s.heap.get? b = some o → h'.get? b = some o) → h'.get? e = some (exc1 fs dx) → s.heap.get? dx = none → h'.get? dx = some (dictOf es n) → getL "message" es = some (some v) → Q () { s with heap := h', toks := tk }) :
    wpAny (model prog w) A (setAttr (.ref e) "message" v) Q E s := by
  obtain ⟨hp, gg, dr, tk₀, os⟩ := s
  dsimp only at X he h
  have I : InstAt hp e (exc0 fs) 58 none := ⟨he, rfl, rfl, trivial⟩
  refine set_plain X I (by rfl) ?_
  have SF := PySem.F.store_Exception
  have hc : clsIn (frag w.params) 58 = some { name := Str.ofString "Refusal", bases := [Value.ref 38], mro := [Value.ref 58, Value.ref 38, Value.type "Exception", Value.type "BaseException", Value.type "object"], ns := 57, qualname := Str.ofString "Refusal" } := rfl
  have sub : Looks (model prog w) hp (isInstance (.ref e) (.type "object")) true := I.type.andThen (looks_mroIn X (by unfold mroIn; rw [hc]; rfl))
  refine codeAny_call_builtin SF.slot.plain SF.entry (@check_slot (model prog w) _ _ ⟨hp, gg, dr, tk₀ + 1, os⟩ "object.__setattr__" "object" "__setattr__" (.ref e) [.str "message" tk₀, v] [] _ SF.kind SF.split sub (SF.args (.ref e) (.str "message" tk₀) v) ?_)
  rw [osa_eq, refuse_eq]
  have hm : Looks (model prog w) hp (mroOf (.ref 58)) [Value.ref 58, Value.ref 38, Value.type "Exception", Value.type "BaseException", Value.type "object"] := (looks_clsIn X hc).andThen .now
  refine wpAny_bind (wpAny_bind (I.type.here (wpAny_bind (hm.here ?_))))
  rw [refuseLoop_ref, refuseLoop_ref, SF.passes]
  have ha : findIn (frag w.params) (.ref 58) "message" = some none := by rfl
  refine wpAny_pure (wpAny_bind (I.type.here (wpAny_bind ((looks_findIn X ha).here (wpAny_bind (wpAny_pure ?_))))))
  -- the store
  show wpAny _ _ (Builtin.ObjectAttr.storeInOwnDict (.ref e) (.ref 58) (.str "message" tk₀) "message" v false) _ _ _
  have hes : e ≠ hp.objs.size := Nat.ne_of_lt (Heap.lt_size he)
  have he₁ : (hp.push { cls := .type "dict", data := .dict #[] }).get? e = some (exc0 fs) := Heap.get?_push_of_some _ he
  refine wpAny_bind (wpAny_pure (wpAny_bind (wpAny_bind (wpAny_loadPart he (wpAny_bind ((looks_clsIn X hc).here ?_))))))
  refine wpAny_bind (wpAny_alloc ?_)
  refine wpAny_bind (wpAny_update he₁ ?_)
  refine wpAny_pure ?_
  have hgd : ((hp.push { cls := .type "dict", data := .dict #[] }).update e fun o => { cls := o.cls, dict := some hp.objs.size, data := o.data, slots := o.slots }).get? hp.objs.size
      = some (dictOf [] 0) := (Heap.get?_update_ne _ _ _ _ hes.symm).trans (Heap.get?_push_at rfl rfl)
  have hge : ((hp.push { cls := .type "dict", data := .dict #[] }).update e fun o => { cls := o.cls, dict := some hp.objs.size, data := o.data, slots := o.slots }).get? e
      = some (exc1 fs hp.objs.size) := Heap.get?_update_self _ he₁ rfl
  show wpAny _ _ (Builtin.ObjectAttr.storeInDict hp.objs.size (.str "message" tk₀) "message" v) _ _ _
  refine wpAny_bind (wpAny_pure (wpAny_bind ?_))
  unfold nsSet
  refine wpAny_bind (wpAny_bind (wpAny_askSetting (wpAny_pure (wpAny_bind (wpAny_mkText (wpAny_bind (wpAny_loadPart hgd ?_)))))))
  dsimp only
  rw [aRefKeyMayBeTheName_at]
  rw [if_neg (by simp)]
  refine wpAny_updatePart hgd ?_
  have hD' := Heap.get?_update_self (Obj.putName (Str.ofString "message") (if (Str.ofString "message").cps.isEmpty = true then 0 else reduceHash (w.params.strHash (Str.ofString "message").cps)) (Value.str (Str.ofString "message") (tk₀ + 1)) v) hgd (by rw [putName_dict]; rfl)
  rw [putName_dict] at hD'
  refine wpAny_bind (wpAny_lookBehind hD' (by first | rfl | exact pastItsLine_dict (by simp [putL, sizeLine_eq])) ?_)
  refine wpAny_pure ?_
  refine h _ _ hp.objs.size _ _ (fun b o hb q => ?_) ?_ ?_ hD' ?_
  · rw [Heap.get?_update_ne _ _ _ _ (Nat.ne_of_lt (Heap.lt_size q)), Heap.get?_update_ne _ _ _ _ hb]
    exact Heap.get?_push_of_some _ q
  · rw [Heap.get?_update_ne _ _ _ _ hes]
    exact hge
  · cases q : hp.get? hp.objs.size with
    | none => rfl
    | some o => exact absurd (Heap.lt_size q) (Nat.lt_irrefl _)
  · rfl
end
section
variable {prog : Program} {w : World} {A : Around} {E : Value → Shared → Prop} {h : Heap} {g : Array GenState} {d : Drawn} {t : Nat} {os : OsState}
abbrev refusalCls : Obj := excClassObj (Str.ofString "Refusal") (Str.ofString "Refusal") 58 57 [.ref 38] [.ref 38, .type "Exception", .type "BaseException", .type "object"] true [] [] false none none (some (.ref 42)) none (some (.str (Str.ofString "Refusal") 226)) (some (.str (Str.ofString "Refusal") 234)) (some (.bool true)) "Exception.__new__"

theorem refusal_at (X : (frag w.params).In h) : h.get? 58 = some refusalCls := X 58 _ rfl
theorem refusal_tail (X : (frag w.params).In h) : OwnTail h [.type "Exception", .type "BaseException", .type "object"] [.ref 38, .type "Exception", .type "BaseException", .type "object"] := by
  have h38 := X 38 _ rfl
  have h37 := X 37 _ rfl
  refine OwnTail.own h38 ⟨_, _, _, h37, rfl, ?_, fun _ => rfl⟩ rfl .base
  intro e he
  simp only [List.mem_cons, List.not_mem_nil, or_false, List.mem_toArray] at he
  rcases he with rfl | rfl | rfl | rfl | rfl <;> exact ⟨_, _, rfl⟩
theorem refusal_ns (X : (frag w.params).In h) : ∃ mN, h.Ns 57 mN ∧ mN "__init__" = some (.ref 55) := by
  have h57 := X 57 _ rfl
  refine ⟨_, ⟨_, _, _, h57, rfl, ?_, fun _ => rfl⟩, rfl⟩
  intro e he
  simp only [List.mem_cons, List.not_mem_nil, or_false, List.mem_toArray] at he
  rcases he with rfl | rfl | rfl | rfl | rfl <;> exact ⟨_, _, rfl⟩

theorem refusal_type_call {rest : List Value} {Q : Fin → Shared → Prop} (X : (frag w.params).In h)
    (hq : ∀ h' e, Heap.MadeExcOf h h' e (.ref 58) rest →
      wpAny (model prog w) A (call (.ref 55) (.ref e :: rest)) (fun r s' => r = .none ∧ Q (.done (.ret (.ref e))) s') E ⟨h', g, d, t, os⟩) (hrest : rest.length ≤ sizeLine) :
    wpAny (model prog w) A (Builtin.«type.__call__» ⟨.ref 58 :: rest, []⟩) Q E ⟨h, g, d, t, os⟩ := by
  have hC := refusal_at X
  have T := refusal_tail X
  obtain ⟨mN, hn, hi⟩ := refusal_ns X
  have F := PySem.F.excBase_Exception
  have hfI := X 55 _ rfl
  repeat (first | with_reducible refine wpAny_loadPart_at hC ?_ | with_reducible refine wpAny_madeBy_exc hC ?_ | wp_step)
  refine codeAny_call_builtin_code (Code.quiet_builtin _ F.quiet) (wpAny_check_new_subU F rfl T hC ?_)
  refine codeAny_exc_new_subU F rfl F T hC ?_ hrest
  show wpAny _ _ _ _ _ _
  have k : ∀ b o, h.get? b = some o → ((h.push { cls := .type "tuple", data := .seq rest.toArray }).push { cls := .ref 58, data := .fields #[.ref h.objs.size, .none, .none, .none, .bool false, .none] }).get? b = some o := fun b o e => Heap.get?_push_of_some _ (Heap.get?_push_of_some _ e)
  have hC₁ := k _ _ hC
  have hfI₁ := k _ _ hfI
  have hn₁ := hn.keeps k
  have T₁ := T.keeps k
  have hget : ((h.push { cls := .type "tuple", data := .seq rest.toArray }).push
      { cls := .ref 58, data := .fields #[.ref h.objs.size, .none, .none, .none, .bool false, .none] }).get? (h.objs.size + 1) = some
      { cls := .ref 58, data := .fields #[.ref h.objs.size, .none, .none, .none, .bool false, .none] } := by heap_get
  have hcC : (Value.ref 58 :: [.ref 38, .type "Exception", .type "BaseException", .type "object"]).contains (.ref 58) = true := by simp
  unfold isInstance
  repeat (first | with_reducible refine wpAny_loadPart_at hget ?_ | (with_reducible refine wpAny_isSubtype_exc hC₁ ?_; rw [hcC]) | wp_step)
  show wpAny _ _ (typeLookup (.ref 58) _) _ _ _
  refine wpAny_typeLookup_tail hC₁ hn₁ T₁ F.mroIs F.init.lookup ?_
  rw [hi]
  refine wpAny_holding (wpAny_bind ?_)
  unfold bindSpecial
  refine wpAny_bind (wpAny_typeOf (T := "function") ⟨_, hfI₁, rfl⟩ ?_)
  rw [if_pos (by decide)]
  refine wpAny_pure (wpAny_bind (wpAny_mono (hq _ (h.objs.size + 1) ⟨k, Heap.get?_none_of_le (Nat.le_succ _), h.objs.size, hget, Heap.get?_none_of_le (Nat.le_refl _), ?_⟩) (fun r s' hr => ?_) fun _ _ x => x))
  · exact Heap.get?_push_of_some _ (Heap.get?_push_at rfl rfl)
  · obtain ⟨rfl, hQ⟩ := hr
    wp_walk
    exact hQ

theorem refusal_call {rest : List Value} {Q : Value → Shared → Prop} (X : (frag w.params).In h)
    (hq : ∀ h' e, Heap.MadeExcOf h h' e (.ref 58) rest →
      wpAny (model prog w) (A.under (.builtin "type.__call__" ⟨.ref 58 :: rest, []⟩)) (call (.ref 55) (.ref e :: rest)) (fun r s' => r = .none ∧ Q (.ref e) s') E ⟨h', g, d, t, os⟩) (hrest : rest.length ≤ sizeLine) :
    wpAny (model prog w) A (call (.ref 58) rest) Q E ⟨h, g, d, t, os⟩ := by
  have hC := refusal_at X
  have f1 := tc_lookup
  have f2 := tc_bind (.ref 58)
  have hT : (⟨h, g, d, t, os⟩ : Shared).TypeIs (.ref 58) "type" := ⟨_, hC, rfl⟩
  refine wpAny_call (codeAny_of_tree ?_)
  show wpAny _ _ (callAny (.ref 58) _) _ _ _
  repeat (any_goals (first | assumption | with_reducible refine wpAny_loadPart_at hC ?_ | wp_step))
  refine ⟨rfl, ?_⟩
  refine codeAny_call_builtin_at (Code.quiet_builtin _ (by decide +kernel)) entry_typeCall (wpAny_check_type_call_sub hC (refusal_type_call X (fun h' e hm => ?_) hrest))
  exact hq h' e hm

/-- the raise of what was made -/
theorem raise_made {s : Shared} {env : Env} {x : Sem Value} {Q : Flow → Shared → Prop} (hh : A.handled = none)
    (hx : wpAny (model prog w) A x (fun v s₁ => ∃ e fs dx, v = .ref e ∧ (frag w.params).In s₁.heap ∧ fs = #[.ref 0, .none, .none, .none, .bool false, .none].set! 0 (fs.getD 0 .none) ∧ s₁.heap.get? e = some (exc1 fs dx) ∧ E (.ref e) s₁) E s) :
    wpAny (model prog w) A (raiseStmt env (some x) none) Q E s := by
  have hcB : (Value.ref 58 :: [.ref 38, .type "Exception", .type "BaseException", .type "object"]).contains (.type "BaseException") = true := by decide
  unfold raiseStmt
  refine wpAny_bind (wpAny_mono hx (fun v s₁ h₁ => ?_) fun _ _ x => x)
  obtain ⟨e, fs, dx, rfl, X, hfs, he, hE⟩ := h₁
  have hC := refusal_at X
  obtain ⟨hp, g, d, tk, os⟩ := s₁
  rw [hfs] at he
  repeat (first | with_reducible refine wpAny_loadPart_at he ?_ | with_reducible refine wpAny_loadPart_at hC ?_ | (with_reducible refine wpAny_isSubtype_exc hC ?_; rw [hcB]) | wp_step)
  exact wpAny_raiseNew_none hh hE
end
theorem fresh_out {C : Ctx} {σ : Store} {h : Heap} (g : Hg C σ h) {a : Addr} (n : h.get? a = none) : C.base.get? a = none ∧ σ a = none ∧ a ∉ C.hid := by
  refine ⟨?_, ?_, fun m => ?_⟩
  · cases q : C.base.get? a with
    | none => rfl
    | some o => have := g.stays a o q; rw [n] at this; cases this
  · cases q : σ a with
    | none => rfl
    | some u =>
      obtain ⟨o, e⟩ := (g.at_ a u q).2.there
      rw [n] at e; cases e
  · obtain ⟨o, e⟩ := g.low a m
    rw [n] at e; cases e

theorem ex_raise {C : Ctx} {env : Env} {ρ : Rho} {σ : Store} {X : XP} {msg : Str} {k : Nat} {np p1 cpos pos : Pos} {Q : FD → Rho → Store → Prop} (hk : env.kindOf "Refusal" = some .globalImplicit) (hf : 0 < C.fuel) (q : X msg σ) :
    Ex C env ρ (.Raise (some (.Call (.Name "Refusal" np) [.Constant (.str msg) k p1] [] cpos)) none pos) σ Q X := by
  refine ⟨fun s g en => ?_⟩
  rw [arm_exec_Raise]
  refine wpAny_bind (wpAny_standAt (raise_made g.ok.handled (wpAny_bind (wpAny_mono ?_ (fun v s₃ h₃ => wpAny_bind (wpAny_standAt (wpAny_pure h₃))) fun _ _ x => x))))
  obtain ⟨mg, hg⟩ := g.ok.wd.g
  refine wpAny_Call_NameR (Name_function_global en.kind hk (loadGlobal_global (mg := mg) (v := .ref 58) (by rw [en.globals]; exact hg.keeps g.stays) (mg_of g.ok.wd.X hg (by rfl)) ?_) (by decide))
  refine callWith_K g.K_in (by rfl) ?_ (by rfl) (by rfl)
  refine spliced_more (wpAny_Constant_str (spliced_none ⟨g.K_in, ?_⟩)) (by rfl)
  obtain ⟨hp, gg, dr, tk, os⟩ := s
  dsimp only
  refine refusal_call (rest := [.str msg tk]) g.K_in (fun h' e hm => ?_) (show 1 ≤ sizeLine by decide)
  have X' : C.K.In h' := g.K_in.keeps hm.keeps
  obtain ⟨t, he, htn, ht⟩ := hm.there
  have hd0 : (C.A.under (.builtin "type.__call__" ⟨.ref 58 :: [.str msg tk], []⟩)).depth < recursionLimit := by
    have := g.ok.depth
    rw [depth_under_make]; omega
  refine wpAny_call (codeAny_call_def (fd := _) (body := _) (binds := [(Str.ofString "self", .ref e), (Str.ofString "message", .str msg tk)]) hd0 (X' 55 _ rfl) rfl ((g.ok.wd.nolimit.keeps g.stays).keeps hm.keeps) (codeRec_of X' (cd := .ref 54) (q := Str.ofString "Refusal.__init__") rfl) rfl (BindsTo.of_eq rfl) (by decide) (fun y hy => by rcases List.mem_cons.mp hy with rfl | hy; rfl; rw [List.mem_singleton.mp hy]; rfl) (fun h₁ hns hk₁ => ?_) rfl rfl rfl)
  have he₁ := hk₁ _ _ he
  refine wpAny_execs_cons (plainObj_wpAny_Assign_Attribute (wpAny_Name (wpAny_loadName_local rfl rfl hns rfl (wpAny_Name (wpAny_loadName_local rfl rfl hns rfl (exc_setattr (X'.keeps hk₁) he₁ fun h₂ tk₂ dx es n k1 k2 k3 k4 k5 => ?_)) rfl)) rfl) rfl)
  refine wpAny_execs_nil ⟨rfl, ?_⟩
  have hnew : hp.get? e = none := hm.new
  have kk : ∀ b o, hp.get? b = some o → h₂.get? b = some o := fun b o q => k1 b o (fresh_ne q hnew) (hk₁ b o (hm.keeps b o q))
  have hdx : hp.get? dx = none := by
    cases z : hp.get? dx with
    | none => rfl
    | some o =>
      have := hk₁ _ _ (hm.keeps _ _ z)
      rw [k3] at this; cases this
  have g₂ := g.keep kk
  obtain ⟨f1, f2, f3⟩ := fresh_out g hnew
  obtain ⟨f4, f5, f6⟩ := fresh_out g hdx
  refine ⟨e, _, dx, rfl, g₂.K_in, ?_, k2, msg, σ, .mk', ⟨g₂, e, _, dx, _, .none, es, n, tk, rfl, k2, rfl, rfl, rfl, rfl, f1, f2, f3, k4, k5, f4, f5, f6, .inl rfl⟩, (Stp.ofKeep g.hσ g.ok.hids kk).weak (fun _ h => nomatch h) en.ins, q⟩
  rfl
end
section
/-- some places hidden further -/
abbrev Ctx.hide (C : Ctx) (new : List Addr) : Ctx := { C with hid := new ++ C.hid }
section
variable {C : Ctx} {σ : Store} {h h' h₁ : Heap}
theorem COk.hide {new : List Addr} (k : COk C) : COk (C.hide new) :=
  ⟨k.wd, k.handled, k.stack, fun a m => List.mem_append.mpr (.inr (k.hids a m)), k.depth, k.units⟩
theorem Hg.fresh_ {a : Addr} (g : Hg C σ h) (n : h.get? a = none) : C.base.get? a = none ∧ σ a = none ∧ a ∉ C.hid := by
  refine ⟨?_, ?_, fun m => ?_⟩
  · cases q : C.base.get? a with
    | none => rfl
    | some o => rw [g.stays a o q] at n; cases n
  · cases q : σ a with
    | none => rfl
    | some u =>
      obtain ⟨o, q'⟩ := (g.at_ a u q).2.there
      rw [n] at q'; cases q'
  · obtain ⟨o, q⟩ := g.low a m
    rw [n] at q; cases q
theorem Hg.hide {new : List Addr} (g : Hg C σ h) (hk : ∀ b o, h.get? b = some o → h₁.get? b = some o) (hn : ∀ a ∈ new, h.get? a = none) (ht : ∀ a ∈ new, ∃ o, h₁.get? a = some o) : Hg (C.hide new) σ h₁ := by
  have g₁ := g.keep hk
  refine ⟨g.ok.hide, g₁.stays, fun a o e => ?_, g₁.frames, fun a m => ?_, fun a o e => ?_⟩
  · obtain ⟨x, y⟩ := g₁.off a o e
    refine ⟨fun m => (List.mem_append.mp m).elim (fun m => ?_) x, y⟩
    have := g.stays a o e
    rw [hn a m] at this; cases this
  · rcases List.mem_append.mp m with m | m
    · exact ht a m
    · exact g₁.low a m
  · obtain ⟨x, y⟩ := g.at_ a o e
    obtain ⟨ob, hob⟩ := y.there
    refine ⟨fun m => (List.mem_append.mp m).elim (fun m => ?_) x, y.mono (view_enter hk hn) ((hk a ob hob).trans hob.symm)⟩
    rw [hn a m] at hob; cases hob
theorem Hg.unhide {new : List Addr} (g : Hg (C.hide new) σ h) (ok : COk C) : Hg C σ h := by
  refine ⟨ok, g.stays, fun a o e => ⟨fun m => (g.off a o e).1 (List.mem_append.mpr (.inr m)), (g.off a o e).2⟩, g.frames, fun a m => g.low a (List.mem_append.mpr (.inr m)), fun a o e => ?_⟩
  obtain ⟨x, y⟩ := g.at_ a o e
  exact ⟨fun m => x (List.mem_append.mpr (.inr m)), y.mono view_leave rfl⟩
theorem He.hide {P : Params} {new hid : List Addr} {env : Env} {ρ : Rho} (e : He P hid env ρ (vw hid σ h) h) (hk : ∀ b o, h.get? b = some o → h₁.get? b = some o) (hn : ∀ a ∈ new, h.get? a = none) : He P (new ++ hid) env ρ (vw (new ++ hid) σ h₁) h₁ := by
  refine ⟨e.kind, e.globals, fun a m => List.mem_append.mpr (.inr (e.ins a m)), ?_, fun x c hx => ?_, e.inj, fun x d hx => ?_⟩
  · obtain ⟨m, n⟩ := e.ns
    exact ⟨m, n.keeps hk⟩
  · obtain ⟨v, o, ho, hd⟩ := e.cell x c hx
    exact ⟨v, o, hk _ _ ho, hd⟩
  · obtain ⟨v, r, n⟩ := e.rd x d hx
    refine ⟨v, r.mono (view_enter hk hn), ?_⟩
    rcases n with ⟨n1, m, n2, n3⟩ | ⟨n1, c, n2, o, ho, hd⟩
    · exact .inl ⟨n1, m, n2.keeps hk, n3⟩
    · exact .inr ⟨n1, c, n2, o, hk _ _ ho, hd⟩
theorem He.unhide {P : Params} {new hid : List Addr} {env : Env} {ρ : Rho} (e : He P (new ++ hid) env ρ (vw (new ++ hid) σ h) h) (ins : ∀ a ∈ ownOf env, a ∈ hid) : He P hid env ρ (vw hid σ h) h :=
  ⟨e.kind, e.globals, ins, e.ns, e.cell, e.inj, fun x d hx => let ⟨v, r, n⟩ := e.rd x d hx; ⟨v, r.mono view_leave, n⟩⟩

theorem view_unhide {new hid : List Addr} (k : ∀ b o, b ∉ new → h.get? b = some o → h'.get? b = some o) : ∀ b o, vw (new ++ hid) σ h b = some o → ¬ Odd o → vw hid σ h' b = some o := by
  intro b o e _
  obtain ⟨q1, q2, q3⟩ := vw_some.mp e
  exact vw_some.mpr ⟨fun m => q1 (List.mem_append.mpr (.inr m)), q2, k b o (fun m => q1 (List.mem_append.mpr (.inl m))) q3⟩
theorem Hg.unhideK {new : List Addr} (g : Hg (C.hide new) σ h) (ok : COk C) (hn : ∀ a ∈ new, a ∉ C.hid) (k : ∀ b o, b ∉ new → h.get? b = some o → h'.get? b = some o) : Hg C σ h' := by
  refine ⟨ok, fun a o e => k a o (fun m => (g.off a o e).1 (List.mem_append.mpr (.inl m))) (g.stays a o e), fun a o e => ⟨fun m => (g.off a o e).1 (List.mem_append.mpr (.inr m)), (g.off a o e).2⟩, ?_, fun a m => ?_, fun a o e => ?_⟩
  · have hm : ∀ env ∈ C.envs, ∀ L, env.frame = some L → L ∉ new := fun env he L hL m => hn L m (ok.hids L (List.mem_filterMap.mpr ⟨env, he, hL⟩))
    have go : ∀ l : List Env, (∀ env ∈ l, env ∈ C.envs) → h.FunFrames C.base l → h'.FunFrames C.base l := by
      intro l
      induction l with
      | nil => intro _ _; trivial
      | cons env r ih =>
        rintro hl ⟨hk, ⟨L, ol, hf, hn', ho, hd'⟩, hr⟩
        exact ⟨hk, ⟨L, ol, hf, hn', k L ol (hm env (hl env (.head _)) L hf) ho, hd'⟩, ih (fun e he => hl e (.tail _ he)) hr⟩
    exact go _ (fun _ h => h) g.frames
  · obtain ⟨o, q⟩ := g.low a (List.mem_append.mpr (.inr m))
    exact ⟨o, k a o (fun z => hn a z m) q⟩
  · obtain ⟨x, y⟩ := g.at_ a o e
    obtain ⟨ob, hob⟩ := y.there
    have ha : a ∉ new := fun m => x (List.mem_append.mpr (.inl m))
    exact ⟨fun m => x (List.mem_append.mpr (.inr m)), y.mono (view_unhide k) ((k a ob ha hob).trans hob.symm)⟩
theorem He.unhideK {P : Params} {new hid : List Addr} {env : Env} {ρ : Rho} (e : He P (new ++ hid) env ρ (vw (new ++ hid) σ h) h) (ins : ∀ a ∈ ownOf env, a ∈ hid) (hn : ∀ a ∈ new, a ∉ hid) (k : ∀ b o, b ∉ new → h.get? b = some o → h'.get? b = some o) : He P hid env ρ (vw hid σ h') h' := by
  have hL : ∀ o, h.get? env.locals = some o → h'.get? env.locals = some o := fun o => k _ o fun z => hn _ z (ins _ (.head _))
  have hc : ∀ y c o, env.cells.lookup y = some c → h.get? c = some o → h'.get? c = some o := fun y c o hy => k _ o fun z => hn _ z (ins _ (.tail _ (lookup_mem hy)))
  refine ⟨e.kind, e.globals, ins, ?_, fun x c hx => ?_, e.inj, fun x d hx => ?_⟩
  · obtain ⟨m, n⟩ := e.ns
    exact ⟨m, n.at' hL⟩
  · obtain ⟨v, o, ho, hd⟩ := e.cell x c hx
    exact ⟨v, o, hc x c _ hx ho, hd⟩
  · obtain ⟨v, r, n⟩ := e.rd x d hx
    refine ⟨v, r.mono (view_unhide k), ?_⟩
    rcases n with ⟨n1, m, n2, n3⟩ | ⟨n1, c, n2, o, ho, hd⟩
    · exact .inl ⟨n1, m, n2.at' hL, n3⟩
    · exact .inr ⟨n1, c, n2, o, hc x c _ n2 ho, hd⟩

/-- one hidden place is turned, others kept -/
theorem Hg.turnK {a : Addr} {o : Obj} (g : Hg C σ h) (ha : a ∈ C.hid) (k : ∀ b o, b ≠ a → h.get? b = some o → h'.get? b = some o) (e : h'.get? a = some o) (hd : (∀ vs, o.data ≠ .fields vs) ∨ a ∉ C.fs) : Hg C σ h' where
  ok := g.ok
  stays := fun b p q => k b p (fun z => (g.off b p q).1 (z ▸ ha)) (g.stays b p q)
  off := g.off
  frames := by
    have hm : ∀ env ∈ C.envs, ∀ L, env.frame = some L → L ∈ C.fs := fun env he L hL => List.mem_filterMap.mpr ⟨env, he, hL⟩
    have go : ∀ l : List Env, (∀ env ∈ l, env ∈ C.envs) → h.FunFrames C.base l → h'.FunFrames C.base l := by
      intro l
      induction l with
      | nil => intro _ _; trivial
      | cons env r ih =>
        rintro hl ⟨hk, ⟨L, ol, hf, hn, ho, hd'⟩, hr⟩
        have : ∃ ol', h'.get? L = some ol' ∧ ∀ vs, ol'.data ≠ .fields vs := by
          by_cases z : L = a
          · rcases hd with hd | hd
            · exact ⟨o, z ▸ e, hd⟩
            · exact absurd (z ▸ hm env (hl env (.head _)) L hf) hd
          · exact ⟨ol, k L ol z ho, hd'⟩
        obtain ⟨ol', h1, h2⟩ := this
        exact ⟨hk, ⟨L, ol', hf, hn, h1, h2⟩, ih (fun e he => hl e (.tail _ he)) hr⟩
    exact go _ (fun _ h => h) g.frames
  low := fun b hb => by
    by_cases z : b = a
    · exact ⟨o, z ▸ e⟩
    · obtain ⟨p, q⟩ := g.low b hb
      exact ⟨p, k b p z q⟩
  at_ := fun b p q => by
    obtain ⟨h1, h2⟩ := g.at_ b p q
    have hb : b ≠ a := fun z => h1 (z ▸ ha)
    obtain ⟨ob, hob⟩ := h2.there
    refine ⟨h1, h2.mono (fun c x r _ => ?_) ((k b ob hb hob).trans hob.symm)⟩
    obtain ⟨r1, r2, r3⟩ := vw_some.mp r
    exact vw_some.mpr ⟨r1, r2, k c x (fun z => r1 (z ▸ ha)) r3⟩
theorem view_turnK {hid : List Addr} {a : Addr} (ha : a ∈ hid) (k : ∀ b o, b ≠ a → h.get? b = some o → h'.get? b = some o) : ∀ b o, vw hid σ h b = some o → ¬ Odd o → vw hid σ h' b = some o := by
  intro c x r _
  obtain ⟨r1, r2, r3⟩ := vw_some.mp r
  exact vw_some.mpr ⟨r1, r2, k c x (fun z => r1 (z ▸ ha)) r3⟩
theorem He.turnK {P : Params} {hid : List Addr} {env : Env} {ρ : Rho} {a : Addr} (e : He P hid env ρ (vw hid σ h) h) (ha : a ∈ hid) (hn : a ∉ ownOf env) (k : ∀ b o, b ≠ a → h.get? b = some o → h'.get? b = some o) : He P hid env ρ (vw hid σ h') h' := by
  have hL : ∀ o, h.get? env.locals = some o → h'.get? env.locals = some o := fun o => k _ o fun z => hn (z ▸ .head _)
  have hc : ∀ y c o, env.cells.lookup y = some c → h.get? c = some o → h'.get? c = some o := fun y c o hy => k _ o fun z => hn (z ▸ .tail _ (lookup_mem hy))
  refine ⟨e.kind, e.globals, e.ins, ?_, fun x c hx => ?_, e.inj, fun x d hx => ?_⟩
  · obtain ⟨m, n⟩ := e.ns
    exact ⟨m, n.at' hL⟩
  · obtain ⟨v, o, ho, hd⟩ := e.cell x c hx
    exact ⟨v, o, hc x c _ hx ho, hd⟩
  · obtain ⟨v, r, n⟩ := e.rd x d hx
    refine ⟨v, r.mono (view_turnK ha k), ?_⟩
    rcases n with ⟨n1, m, n2, n3⟩ | ⟨n1, c, n2, o, ho, hd⟩
    · exact .inl ⟨n1, m, n2.at' hL, n3⟩
    · exact .inr ⟨n1, c, n2, o, hc x c _ n2 ho, hd⟩
/-- a step behind which one hidden place, not the frame's own, is turned -/
theorem Stp.turnK {own hid fs : List Addr} {σ₀ : Store} {h₀ : Heap} {a : Addr} (x : Stp own hid fs σ₀ h₀ σ h) (ha : h₀.get? a = none) (k : ∀ b o, b ≠ a → h.get? b = some o → h'.get? b = some o) : Stp own hid fs σ₀ h₀ σ h' := by
  have ne : ∀ b o, h₀.get? b = some o → b ≠ a := fun b o q z => by rw [z, ha] at q; cases q
  refine ⟨x.sub, x.subf, fun b p q hd hs hn => ?_, x.fresh, fun b p q => ?_⟩
  · obtain ⟨y1, sl, y2⟩ := x.keep b p q hd hs hn
    exact ⟨fun hh => k b p (ne b p q) (y1 hh), sl, k b _ (ne b p q) y2⟩
  · obtain ⟨p', q'⟩ := x.there b p q
    exact ⟨p', k b p' (ne b p q) q'⟩

/-- a thing that can be walked: its items -/
structure WalkD (C : Ctx) (σ : Store) (it : D) (ds : List D) : Prop where
  out : ∀ (s : Shared) (v : Value), Hg C σ s.heap → Rp C.w.params (vw C.hid σ s.heap) v it → ∀ (Q E : Value → Shared → Prop),
    (∀ (I : Addr) (h' : Heap) (fp : List Addr) (Pv : Nat → Value → Prop) (St : Nat → Heap → Prop), (∀ b o, s.heap.get? b = some o → h'.get? b = some o) → s.heap.get? I = none →
      (∀ i h, St i h → ∃ o, h.get? I = some o ∧ ¬ Odd o) → Walks C.prog C.w C.A I fp [I] ds.length Pv St → St 0 h' → (∀ b ∈ fp, b = I ∨ ∃ o, vw C.hid σ s.heap b = some o ∧ ¬ Odd o) →
      (∀ i v, Pv i v → i < ds.length → ∃ d, ds[i]? = some d ∧ Rp C.w.params (vw C.hid σ s.heap) v d) → Q (.ref I) { s with heap := h' }) → wpAny (model C.prog C.w) C.A (pyIter v) Q E s

theorem walk_lst {ds : List D} : WalkD C σ (.lst ds) ds := by
  refine ⟨fun s v g r Q E k => ?_⟩
  obtain ⟨ax, vs, n, rfl, hl, hr⟩ := r.inv
  · have hl' := (vw_some.mp hl).2.2
    have hlist : s.heap.IsList ax vs.toArray := ⟨_, hl', rfl, n, rfl⟩
    have hne : ax ≠ s.heap.objs.size := Nat.ne_of_lt (Heap.lt_size hl')
    have hlen : ds.length = vs.toArray.size := by rw [List.size_toArray]; exact hr.length.symm
    refine wpAny_pyIter_list hlist ?_
    have hnone : s.heap.get? s.heap.objs.size = none := by
      cases q : s.heap.get? s.heap.objs.size with
      | none => rfl
      | some o => exact absurd (Heap.lt_size q) (Nat.lt_irrefl _)
    refine k s.heap.objs.size _ _ _ _ (fun b o q => Heap.get?_push_of_some _ q) hnone (fun i h st => ?_) (hlen ▸ Walks.list g.ok.handled _ ax hne vs.toArray) ⟨⟨_, Heap.get?_push_size _ rfl, rfl, rfl⟩, hlist.push _⟩ (fun b hb => ?_) (fun i v hv hi => ?_)
    · obtain ⟨⟨o, ho, hc, hd⟩, _⟩ := st
      exact ⟨o, ho, fun ⟨_, q⟩ => q.elim (fun q => by rw [hc] at q; cases q) (fun q => by rw [hc] at q; simp at q)⟩
    · rcases List.mem_cons.mp hb with rfl | hb
      · exact .inl rfl
      · rw [List.mem_singleton.mp hb]
        exact .inr ⟨_, hl, not_odd fun vs q => by cases q⟩
    · have hd : ds[i]? = some ds[i] := by simp [hi]
      obtain ⟨v', h1, h2⟩ := hr.get hd
      have hv' : vs[i]? = some v := by simpa using hv
      rw [hv'] at h1
      cases h1
      exact ⟨_, hd, h2⟩

theorem none_size {h : Heap} : h.get? h.objs.size = none := by
  cases q : h.get? h.objs.size with
  | none => rfl
  | some o => exact absurd (Heap.lt_size q) (Nat.lt_irrefl _)
/-- a range's items -/
def rngs (a : Int) : Nat → List D
  | 0 => []
  | n + 1 => .int a :: rngs (a + 1) n
theorem rngs_length : ∀ {n : Nat} {a : Int}, (rngs a n).length = n
  | 0, _ => rfl
  | n + 1, a => by simp [rngs, rngs_length]
theorem rngs_get : ∀ {n i : Nat} {a : Int}, i < n → (rngs a n)[i]? = some (.int (a + i))
  | n + 1, 0, a, _ => by simp [rngs]
  | n + 1, i + 1, a, h => by
    have := rngs_get (n := n) (i := i) (a := a + 1) (by omega)
    simp only [rngs, List.getElem?_cons_succ]
    rw [this]
    congr 2
    push_cast
    omega
theorem walk_rng {a b : Int} {n : Nat} (hn : (n : Int) = b - a) (ha : -1000 ≤ a) (hb : b ≤ 1000) : WalkD C σ (.rng a b) (rngs a n) := by
  refine ⟨fun s v g r Q E k => ?_⟩
  obtain ⟨x, t, u, v, rfl, hr⟩ := r.inv
  · have hr' := (vw_some.mp hr).2.2
    refine wpAny_pyIter_range (a := a) (b := b) (c := 1) hr' (small_one (by omega) (by omega) (by omega) (by omega)) ?_
    have hsz : Builtin.Range.rangeSize a b 1 = (n : Int) := by
      rw [rangeSize_one]
      split <;> omega
    rw [hsz]
    refine k s.heap.objs.size _ _ _ _ (fun b o q => Heap.get?_push_of_some _ q) none_size (fun i h st => ?_) (by rw [rngs_length]; exact PyProof.Rows.LCg.range_walks g.ok.handled a n) (by
      show _ = _
      rw [Heap.get?_push_size _ rfl]
      simp) (fun b hb => ?_) (fun i v hv hi => ?_)
    · exact ⟨_, st, fun ⟨_, q⟩ => q.elim (fun q => by cases q) (fun q => by simp at q)⟩
    · exact .inl (List.mem_singleton.mp hb)
    · obtain ⟨t, rfl⟩ := hv
      rw [rngs_length] at hi
      exact ⟨_, rngs_get hi, .int _ _⟩
end
section
variable {C : Ctx} {env : Env} {ρ : Rho} {σ : Store} {X : XP}
/-- what a turn of a loop hands on -/
def Lap (J : Rho → Store → Prop) (Q : FD → Rho → Store → Prop) : FD → Rho → Store → Prop
  | .next, ρ, σ => ∃ ρ', Weak ρ' ρ ∧ J ρ' σ
  | .cont, ρ, σ => ∃ ρ', Weak ρ' ρ ∧ J ρ' σ
  | .brk, ρ, σ => Q .next ρ σ
  | .ret d, ρ, σ => Q (.ret d) ρ σ
inductive FInv (C C' : Ctx) (env : Env) (σ₁ : Store) (h₁ : Heap) (s : Shared) (J : Nat → Rho → Store → Prop) (St : Nat → Heap → Prop) (N : Nat) (k : Nat) (s' : Shared) : Prop
  | mk (i : Nat) (ρ' : Rho) (σ' : Store) : J i ρ' σ' → i ≤ N → k = N + 1 - i → Upto s s' → Hg C' σ' s'.heap → He C.w.params C'.hid env ρ' (vw C'.hid σ' s'.heap) s'.heap → Stp (ownOf env) C'.hid C.fs σ₁ h₁ σ' s'.heap → St i s'.heap → FInv C C' env σ₁ h₁ s J St N k s'
def FFl (C : Ctx) (env : Env) (σ : Store) (s : Shared) (Q : FD → Rho → Store → Prop) (Inv : Nat → Shared → Prop) (k : Nat) (s₆ : Shared) : Flow → Prop
  | .next | .cont => ∃ m, m < k ∧ Inv m s₆
  | .brk => XPost C env σ s Q .next s₆
  | .ret v => XPost C env σ s Q (.ret v) s₆
theorem ex_for {x : Str} {px pos : Pos} {iter : Expr} {body : List Stmt} {Q : FD → Rho → Store → Prop} (hx : env.kindOf x = some .local ∨ (env.kindOf x = some .cell ∧ (env.cells.lookup x).isSome = true))
    (h : Ev C env ρ iter σ (fun it σ₁ => ∃ ds, WalkD C σ₁ it ds ∧ ∃ J : Nat → Rho → Store → Prop, ∃ ρ₀, Weak ρ₀ ρ ∧ J 0 ρ₀ σ₁ ∧
      (∀ i d I ρ σ, ds[i]? = some d → J i ρ σ → Exs (C.hide [I]) env ((x, d) :: ρ) body σ (Lap (J (i + 1)) Q) NX) ∧ ∀ ρ σ, J ds.length ρ σ → Q .next ρ σ) X)
    (hs : ∀ x, foldedSetIterable iter env x = pure x := by intro _; rfl) : Ex C env ρ (.For (.Name x px) iter body [] pos) σ Q X := by
  refine ⟨fun s g en => ?_⟩
  refine wpAny_For (Jd.seqX g en (.refl s) (.start g en) (h.mono (fun it σ₁ q => ?_) fun _ _ x => x)) hs
  obtain ⟨ds, W, J, ρ₀, hw, h0, turn, last⟩ := q
  intro v s₁ u₁ g₁ e₁ st₁ _ r₁
  refine W.out s₁ v g₁ r₁ _ _ fun I h₁ fp Pv St hk hI hIo Wk st0 hfp hP => ?_
  have hnew : ∀ a ∈ [I], s₁.heap.get? a = none := fun a m => by rw [List.mem_singleton.mp m]; exact hI
  have hthere : ∀ a ∈ [I], ∃ o, h₁.get? a = some o := fun a m => by
    rw [List.mem_singleton.mp m]
    obtain ⟨o, q, _⟩ := hIo 0 h₁ st0
    exact ⟨o, q⟩
  have g₂ := g₁.hide (new := [I]) hk hnew hthere
  have e₂ := (e₁.weak hw.out).hide (new := [I]) (h₁ := h₁) hk hnew
  have hIh : I ∈ (C.hide [I]).hid := List.mem_append.mpr (.inl (.head _))
  have hIn : I ∉ ownOf env := fun m => (g₁.fresh_ hI).2.2 (e₁.ins I m)
  have hIf : I ∉ C.fs := fun m => (g₁.fresh_ hI).2.2 (g₁.ok.hids I m)
  have start : Stp (ownOf env) (C.hide [I]).hid C.fs σ₁ s₁.heap σ₁ h₁ := (Stp.ofKeep g₂.hσ g₂.ok.hids hk).weak (fun _ h => nomatch h) e₂.ins
  have back : ∀ {σ' : Store} {h' : Heap}, Stp (ownOf env) (C.hide [I]).hid C.fs σ₁ s₁.heap σ' h' → Stp (ownOf env) C.hid C.fs σ s.heap σ' h' := fun st => st₁.trans (Stp.leave st (fun _ _ q => q) hnew (fun a m => .inr m) e₁.ins (fun a m => .inr m) g₁.ok.hids)
  have fin : ∀ {f : Flow} {fd : FD} {ρ' : Rho} {σ' : Store} {s' : Shared}, Upto s s' → Hg (C.hide [I]) σ' s'.heap → He C.w.params (C.hide [I]).hid env ρ' (vw (C.hide [I]).hid σ' s'.heap) s'.heap →
      Stp (ownOf env) (C.hide [I]).hid C.fs σ₁ s₁.heap σ' s'.heap → Rf C.w.params (vw (C.hide [I]).hid σ' s'.heap) f fd → Q fd ρ' σ' → XPost C env σ s Q f s' := fun u g e st r q =>
    ⟨_, _, _, u, g.unhide g₁.ok, e.unhide e₁.ins, back st, r.mono view_leave, q⟩
  have hview : ∀ b o, vw C.hid σ₁ s₁.heap b = some o → ¬ Odd o → vw (C.hide [I]).hid σ₁ s₁.heap b = some o := view_enter (fun _ _ q => q) hnew
  have frm : ∀ {i : Nat} {σ₂ σ₃ : Store} {h₂ h₃ : Heap}, Hg (C.hide [I]) σ₂ h₂ → Stp (ownOf env) (C.hide [I]).hid C.fs σ₁ s₁.heap σ₂ h₂ → Stp (ownOf env) (C.hide [I]).hid C.fs σ₂ h₂ σ₃ h₃ → St i h₂ → St i h₃ := by
    intro i σ₂ σ₃ h₂ h₃ g₂ x y st
    refine Wk.frame i h₂ h₃ st fun b hb o ho => ?_
    rcases hfp b hb with rfl | ⟨p, hp, hd⟩
    · obtain ⟨oI, q1, q2⟩ := hIo i h₂ st
      rw [ho] at q1; cases q1
      refine (y.keep b o ho q2 ?_ hIn).1 hIf
      cases z : σ₂ b with
      | none => rfl
      | some u => exact absurd hIh (g₂.hσ b (by rw [z]; simp))
    · have q := x.view b p (hview b p hp hd) hd
      obtain ⟨_, _, q3⟩ := vw_some.mp (y.view b p q hd)
      obtain ⟨_, _, q4⟩ := vw_some.mp q
      rw [ho] at q4; cases q4
      exact q3
  refine codeAny_forLoop (FInv C (C.hide [I]) env σ₁ s₁.heap s J St ds.length) ?_ (ds.length + 1) ⟨0, ρ₀, σ₁, h0, Nat.zero_le _, rfl, u₁.trans (.mk' (tk := s₁.toks)), g₂, e₂, start, st0⟩
  rintro k s₂ ⟨i, ρ₂, σ₂, hJ, hi, rfl, u₂, g₃, e₃, st₃, sti⟩
  by_cases hlt : i < ds.length
  · refine Wk.item i s₂ _ _ hlt sti fun v₃ h₃ tk₃ hPv st₃' hk₃ => ?_
    have hk₃' : ∀ b o, b ≠ I → s₂.heap.get? b = some o → h₃.get? b = some o := fun b o hb => hk₃ b o fun m => hb (List.mem_singleton.mp m)
    obtain ⟨oI, hoI, _⟩ := hIo _ _ st₃'
    have g₄ := g₃.turnK hIh hk₃' hoI (.inr hIf)
    have e₄ := e₃.turnK hIh hIn hk₃'
    obtain ⟨d, hd, rd⟩ := hP i v₃ hPv hlt
    have rd' : Rp C.w.params (vw (C.hide [I]).hid σ₂ h₃) v₃ d := ((rd.mono hview).mono st₃.view).mono (view_turnK hIh hk₃')
    have st₄ := st₃.turnK hI hk₃'
    refine wpAny_assign_Name ?_
    refine store_name (C := C.hide [I]) (s := ⟨h₃, _, _, _, _⟩) (s₀ := ⟨s₁.heap, s.gens, s.drawn, s.toks, s.os⟩) hx g₄ e₄ (by have := u₂; unfold Upto at *; rw [this]) st₄ rd' fun s₅ u₅ g₅ e₅ st₅ sx₅ => ?_
    have sti₅ := frm g₄ st₄ sx₅ st₃'
    have T := turn i d I ρ₂ σ₂ hd hJ
    refine wpAny_mono (Xx.seqX (C := C.hide [I]) (X := NX) (s₀ := s₅) (σ₀ := σ₂) (P := fun f s₆ => FFl C env σ s Q (FInv C (C.hide [I]) env σ₁ s₁.heap s J St ds.length) (ds.length + 1 - i) s₆ f) g₅ e₅ (.refl s₅) (.start g₅ e₅) (T.mono (fun f ρ₆ σ₆ q => ?_) fun _ _ x => x)) (fun f s₆ h₆ => ?_) fun e s' h' => (nx_false h').elim
    · intro fl s₆ u₆ g₆ e₆ st₆ r₆
      have uu : Upto s s₆ := by
        refine Upto.trans (s₁ := s₅) ?_ u₆
        have := u₅
        unfold Upto at *
        rw [this]
      have ss : Stp (ownOf env) (C.hide [I]).hid C.fs σ₁ s₁.heap σ₆ s₆.heap := st₅.trans st₆
      have si : St (i + 1) s₆.heap := frm g₅ st₅ st₆ sti₅
      cases r₆ with
      | next => obtain ⟨ρ', w, hI'⟩ := q; exact ⟨ds.length + 1 - (i + 1), by omega, i + 1, ρ', σ₆, hI', hlt, rfl, uu, g₆, e₆.weak w.out, ss, si⟩
      | cont => obtain ⟨ρ', w, hI'⟩ := q; exact ⟨ds.length + 1 - (i + 1), by omega, i + 1, ρ', σ₆, hI', hlt, rfl, uu, g₆, e₆.weak w.out, ss, si⟩
      | brk => exact fin uu g₆ e₆ ss .next q
      | ret r => exact fin uu g₆ e₆ ss (.ret r) q
    · cases f <;> exact h₆
  · have hie : i = ds.length := by omega
    subst hie
    refine Wk.done s₂ _ _ sti fun h₃ tk₃ hk₃ => ?_
    have hk₃' : ∀ b o, b ≠ I → s₂.heap.get? b = some o → h₃.get? b = some o := fun b o hb => hk₃ b o fun m => hb (List.mem_singleton.mp m)
    have hk₄ : ∀ b o, b ∉ [I] → s₂.heap.get? b = some o → h₃.get? b = some o := hk₃
    refine wpAny_execs_nil (env := env) ⟨.next, ρ₂, σ₂, u₂.trans .mk', g₃.unhideK g₁.ok (fun a m => (g₁.fresh_ (hnew a m)).2.2) hk₄, e₃.unhideK e₁.ins (fun a m => (g₁.fresh_ (hnew a m)).2.2) hk₄, back (st₃.turnK hI hk₃'), .next, last ρ₂ σ₂ hJ⟩
end
end
section
section
variable {C : Ctx} {σ : Store} {h h' h₁ : Heap}
theorem Marked.unhideK {new : List Addr} {e : Value} {msg : Str} (R : Marked (C.hide new) σ h e msg) (ok : COk C) (hn : ∀ a ∈ new, a ∉ C.hid) (k : ∀ b o, b ∉ new → h.get? b = some o → h'.get? b = some o) : Marked C σ h' e msg := by
  obtain ⟨⟨g, a, oe, dx, vs, tb, es, n, t, rfl, he, hcls, hdict, hd, h1, hb, hσ, hh, hdx, hmsg, hbx, hσx, hhx, htb⟩, a', oe', vs', T', q1, q2, q3, q4⟩ := R
  cases q1
  rw [he] at q2
  cases q2
  have out : ∀ {b}, b ∉ (C.hide new).hid → b ∉ new ∧ b ∉ C.hid := fun hb => ⟨fun m => hb (List.mem_append.mpr (.inl m)), fun m => hb (List.mem_append.mpr (.inr m))⟩
  refine ⟨⟨g.unhideK ok hn k, a, oe, dx, vs, tb, es, n, t, rfl, k _ _ (out hh).1 he, hcls, hdict, hd, h1, hb, hσ, (out hh).2, k _ _ (out hhx).1 hdx, hmsg, hbx, hσx, (out hhx).2, htb.imp id ?_⟩, a, oe, vs', T', rfl, k _ _ (out hh).1 he, q3, q4⟩
  rintro ⟨T, oT, ts, r, hbT, hTe, hT, hTc, hTd, hT3, hTh, hTσ⟩
  exact ⟨T, oT, ts, r, hbT, hTe, k _ _ (out hTh).1 hT, hTc, hTd, hT3, (out hTh).2, hTσ⟩
theorem passOn_raised {α : Type} {what : String} {env : Env} {s : Shared} {e : Value} {msg : Str} {Q : α → Shared → Prop} {E : Value → Shared → Prop} (R : Marked C σ s.heap e msg)
    (h : ∀ h', Marked C σ h' e msg → Stp [] C.hid C.fs σ s.heap σ h' → E e { s with heap := h' }) : wpAny (model C.prog C.w) C.A (PySem.passOn what e env : Sem α) Q E s := by
  obtain ⟨R₀, a, oe, vs, T, rfl, q2, q3, q4⟩ := id R
  unfold PySem.passOn
  refine wpAny_bind (wpAny_field q2 q3 q4 ?_)
  rw [if_neg (by simp)]
  exact wpAny_bind (flight_raised R fun h' R' st => wpAny_throw (h h' R' st))
/-- a name of the frame's own stored -/
theorem He.store {P : Params} {hid : List Addr} {env : Env} {ρ : Rho} {x : Str} {v : Value} {d : D} {m : Str → Option Value} (e : He P hid env ρ (vw hid σ h) h) (hk : env.kindOf x = some .local) (hm : h.Ns env.locals m)
    (hn : h'.Ns env.locals (fun y => if y = x then some v else m y)) (k : ∀ b o, b ≠ env.locals → h.get? b = some o → h'.get? b = some o) (r : Rp P (vw hid σ h) v d) : He P hid env ((x, d) :: ρ) (vw hid σ h') h' := by
  have hL : env.locals ∈ hid := e.ins _ (.head _)
  have nc : ∀ (y : Str) (c : Addr) (w : Option Value), env.cells.lookup y = some c → h.IsCell c w → c ≠ env.locals := fun y c w _ hw z => by
    obtain ⟨m, o, es, ep, ho, hd, _⟩ := e.ns
    obtain ⟨o', ho', hd'⟩ := hw
    rw [z, ho] at ho'; cases ho'
    rw [hd] at hd'; cases hd'
  have hcell : ∀ (y : Str) (c : Addr) (w : Option Value), env.cells.lookup y = some c → h.IsCell c w → h'.IsCell c w := fun y c w hy hw => by
    have hne := nc y c w hy hw
    obtain ⟨o', ho', hd'⟩ := hw
    exact ⟨o', k _ _ hne ho', hd'⟩
  refine ⟨e.kind, e.globals, e.ins, ⟨_, hn⟩, fun y c hy => ?_, e.inj, fun y dy hy => ?_⟩
  · obtain ⟨w, hw⟩ := e.cell y c hy
    exact ⟨w, hcell y c w hy hw⟩
  · rw [List.lookup_cons] at hy
    by_cases z : (y == x) = true
    · rw [z] at hy
      cases hy
      rw [beq_iff_eq] at z
      subst z
      exact ⟨v, r.mono (view_turnK hL k), .inl ⟨hk, _, hn, if_pos rfl⟩⟩
    · have zf : (y == x) = false := by simpa using z
      rw [zf] at hy
      obtain ⟨w, rw', n⟩ := e.rd y dy hy
      refine ⟨w, rw'.mono (view_turnK hL k), ?_⟩
      have hyx : y ≠ x := fun q => z (by rw [q]; exact beq_self_eq_true x)
      rcases n with ⟨n1, m', n2, n3⟩ | ⟨n1, c, n2, n3⟩
      · refine .inl ⟨n1, _, hn, ?_⟩
        show (if y = x then some v else m y) = some w
        rw [if_neg hyx]
        obtain ⟨o1, es1, ep1, a1, a2, a3, a4⟩ := hm
        obtain ⟨o2, es2, ep2, b1, b2, b3, b4⟩ := n2
        rw [a1] at b1; cases b1
        rw [a2] at b2; cases b2
        rw [← a4 y, b4 y, n3]
      · exact .inr ⟨n1, c, n2, hcell y c _ n2 n3⟩
end

abbrev Tsts (C : Ctx) (env : Env) (ρ : Rho) (ifs : List Expr) := Jd C (fun _ (b : Bool) (d : Bool) => b = d) (forIn ifs true fun c r => if r = true then do let ok ← isTrue c env (eval c env); pure (ForInStep.yield ok) else pure (ForInStep.yield r)) env ρ
/-- the names that a comprehension's scope sees -/
def Capt (env : Env) (scope : Scope) (cl : List (Str × Addr)) (ρ ρ' : Rho) : Prop :=
  ∀ p ∈ ρ', ρ.lookup p.1 = some p.2 ∧ (env.kindOf p.1 = some .cell ∨ env.kindOf p.1 = some .free) ∧ ((compEnvC scope cl 0 env).kindOf p.1 = some .cell ∨ ((compEnvC scope cl 0 env).kindOf p.1 = some .free ∧ (p.1 == ("__classdict__" : Str)) = false)) ∧ cl.lookup p.1 = env.cells.lookup p.1
section
variable {C : Ctx} {env : Env} {ρ : Rho} {σ : Store} {X : XP}
theorem tsts_nil {Q : Bool → Store → Prop} (q : Q true σ) : Tsts C env ρ [] σ Q X := ⟨fun s g _ => wpAny_tests_nil ⟨_, σ, .refl s, g, .refl g.hσ g.ok.hids, rfl, q⟩⟩
theorem tsts_one {c : Expr} {Q : Bool → Store → Prop} (h : Tst C env ρ c σ Q X) : Tsts C env ρ [c] σ Q X := ⟨fun s g en => wpAny_tests_one (h.out s g en)⟩


theorem Stp.hideMore {own new hid fs : List Addr} {σ' : Store} {h h' : Heap} (x : Stp own hid fs σ h σ' h') (hn : ∀ a ∈ new, σ' a = none) : Stp own (new ++ hid) fs σ h σ' h' :=
  ⟨fun a m => List.mem_append.mpr (.inr (x.sub a m)), fun a m => List.mem_append.mpr (.inr (x.subf a m)), x.keep, fun a e => ⟨fun m => (List.mem_append.mp m).elim (fun m => e (hn a m)) (x.fresh a e).1, (x.fresh a e).2⟩, x.there⟩
theorem ne_at (a b : Nat) (h : a < b ∨ b < a) : a ≠ b := by omega
theorem relabel_local {scope : Scope} {cl : List (Str × Addr)} {x : Str} {L : Addr} (hx : scope.names.lookup x = some .local) : (compEnvC scope cl L env).kindOf x = some .local := lookup_relabel_local hx

/-- the three places of a comprehension: the iterator, what is made, the names -/
structure Pre (C : Ctx) (cenv : Env) (σ₁ : Store) (h₁ : Heap) (I A L : Addr) (fp : List Addr) (N : Nat) (Pv : Nat → Value → Prop) (St : Nat → Heap → Prop) : Prop where
  g : Hg C σ₁ h₁
  n : ∀ a ∈ [I, A, L], h₁.get? a = none
  ia : I ≠ A
  il : I ≠ L
  al : A ≠ L
  hL : cenv.locals = L
  ins : ∀ a ∈ ownOf cenv, a = L ∨ a ∈ C.hid
  wk : Walks C.prog C.w C.A I fp [I] N Pv St
  io : ∀ i h, St i h → ∃ o, h.get? I = some o ∧ ¬ Odd o
  inFp : ∀ b ∈ fp, b = I ∨ ∃ o, vw C.hid σ₁ h₁ b = some o ∧ ¬ Odd o
theorem mem3 {I A L a : Addr} (m : a ∈ [I, A, L]) : a = I ∨ a = A ∨ a = L := by simpa using m
theorem mI {I A L : Addr} : I ∈ [I, A, L] := .head _
theorem mA {I A L : Addr} : A ∈ [I, A, L] := .tail _ (.head _)
theorem mL {I A L : Addr} : L ∈ [I, A, L] := .tail _ (.tail _ (.head _))
theorem toH {new : List Addr} {a : Addr} (m : a ∈ new) : a ∈ (C.hide new).hid := List.mem_append.mpr (.inl m)
section
variable {cenv : Env} {ρ' : Rho} {σ₁ σ₂ σ₃ : Store} {h₁ h₂ h₄ h : Heap} {I A L a : Addr} {fp : List Addr} {N i : Nat} {Pv : Nat → Value → Prop} {St : Nat → Heap → Prop} (p : Pre C cenv σ₁ h₁ I A L fp N Pv St)
include p
theorem Pre.fr (m : a ∈ [I, A, L]) : C.base.get? a = none ∧ σ₁ a = none ∧ a ∉ C.hid := p.g.fresh_ (p.n a m)
theorem Pre.notF (m : a ∈ [I, A, L]) : a ∉ C.fs := fun q => (p.fr m).2.2 (p.g.ok.hids a q)
theorem Pre.notOwn (m : a ∈ [I, A, L]) (hl : a ≠ L) : a ∉ ownOf cenv := fun q => (p.ins a q).elim hl (p.fr m).2.2
theorem Pre.view : ∀ b o, vw C.hid σ₁ h₁ b = some o → ¬ Odd o → vw (C.hide [I, A, L]).hid σ₁ h₁ b = some o := view_enter (fun _ _ q => q) p.n
theorem Pre.none2 (g₂ : Hg (C.hide [I, A, L]) σ₂ h₂) (m : a ∈ [I, A, L]) : σ₂ a = none := by
  cases z : σ₂ a with
  | none => rfl
  | some u => exact absurd (toH m) (g₂.hσ a (by rw [z]; simp))
theorem Pre.own {o : Obj} (m : a ∈ [I, A, L]) (g₂ : Hg (C.hide [I, A, L]) σ₂ h₂) (y : Stp [] (C.hide [I, A, L]).hid C.fs σ₂ h₂ σ₃ h₄) (hd : ¬ Odd o) (ho : h₂.get? a = some o) : h₄.get? a = some o :=
  (y.keep a o ho hd (p.none2 g₂ m) List.not_mem_nil).1 (p.notF m)
theorem Pre.frm (g₂ : Hg (C.hide [I, A, L]) σ₂ h₂) (x : Stp [] (C.hide [I, A, L]).hid C.fs σ₁ h₁ σ₂ h₂) (y : Stp [] (C.hide [I, A, L]).hid C.fs σ₂ h₂ σ₃ h₄) (st : St i h₂) : St i h₄ := by
  refine p.wk.frame i h₂ h₄ st fun b hb o ho => ?_
  rcases p.inFp b hb with rfl | ⟨q, hp, hd⟩
  · obtain ⟨oI, q1, q2⟩ := p.io i h₂ st
    rw [ho] at q1; cases q1
    exact p.own mI g₂ y q2 ho
  · have q := x.view b q (p.view b q hp hd) hd
    have q3 := (vw_some.mp (y.view b _ q hd)).2.2
    have q4 := (vw_some.mp q).2.2
    rw [ho] at q4; cases q4
    exact q3
theorem Pre.ownNs {m : Str → Option Value} (g₂ : Hg (C.hide [I, A, L]) σ₂ h₂) (y : Stp [] (C.hide [I, A, L]).hid C.fs σ₂ h₂ σ₃ h₄) (n : h₂.Ns L m) : h₄.Ns L m := by
  obtain ⟨o, es, ep, ho, hd, r⟩ := n
  exact ⟨o, es, ep, p.own mL g₂ y (not_odd fun vs q => by rw [hd] at q; cases q) ho, hd, r⟩
theorem Pre.frameK (m : a ∈ [I, A, L]) (hne : I ≠ a) (st : St i h₂) (k : ∀ b o, b ≠ a → h₂.get? b = some o → h₄.get? b = some o) : St i h₄ :=
  p.wk.frame _ _ _ st fun b hb o q => k b o (fun z => by
    rcases p.inFp b hb with z' | ⟨_, hp, _⟩
    · exact hne (z'.symm.trans z)
    · have := (vw_some.mp hp).2.2
      rw [z, p.n a m] at this; cases this) q
/-- a turn's refusal -/
theorem Pre.bad {e0 : Env} {outer : List Env} {L0 : Addr} {use : Option (Value → Sem Unit)} {Q' : Value → Shared → Prop} {σ : Store} {s s₂ s' : Shared} {m : Str → Option Value} {e : Value} (hC : C.envs = e0 :: outer) (hfr : cenv.frame = e0.frame) (hf0 : e0.frame = some L0)
    (st₁ : Stp [] C.hid C.fs σ s.heap σ₁ h₁) (u : Upto s s₂) (g₂ : Hg (C.hide [I, A, L]) σ₂ s₂.heap) (st : Stp [] (C.hide [I, A, L]).hid C.fs σ₁ h₁ σ₂ s₂.heap) (hn : s₂.heap.Ns L m) (hx : PostX (C.hide [I, A, L]) [] σ₂ s₂ X e s') :
    notedBy (model C.prog C.w) C.A cenv (fun e s' => compPost (model C.prog C.w) C.A (PostX C [] σ s X) use Q' (.ref A) L (.error e) s') e s' := by
  obtain ⟨msg, σ', u', R, st', hx'⟩ := hx
  have hnote : noteFrame e cenv = noteFrame e e0 := by
    unfold noteFrame PySem.frameOf
    rw [hfr]
  unfold notedBy
  rw [hnote]
  refine note_raised (C := C.hide [I, A, L]) hC hf0 R fun h₅ R₅ st₅ => ?_
  refine ⟨m, p.ownNs R.hg st₅ (p.ownNs g₂ st' hn), fun h₆ hs₆ cenv' _ => ?_⟩
  refine passOn_raised (C := C) (R₅.unhideK (h' := h₆) p.g.ok (fun a m => (p.fr m).2.2) fun b o hb q => hs₆.extBut b o (fun z => hb (z ▸ mL)) q) fun h₇ R₇ st₇ => ?_
  refine ⟨msg, σ', (u.trans u').trans .mk', R₇.1, ?_, hx'⟩
  have a1 : Stp [] C.hid C.fs σ₁ h₁ σ' h₅ := Stp.leave (st.trans (st'.trans st₅)) (fun _ _ q => q) p.n (fun _ h => nomatch h) (fun _ h => nomatch h) (fun a m => .inr m) p.g.ok.hids
  exact st₁.trans ((a1.turnK (p.n L mL) fun b o hb q => hs₆.extBut b o hb q).trans st₇)
/-- a turn's start -/
theorem Pre.turn {ds : List D} {x : Str} {px : Pos} {v₃ : Value} {s₂ s₄ : Shared} {P : Shared → Prop} {E : Value → Shared → Prop} (hx : cenv.kindOf x = some .local) (hlt : i < N) (hPv : Pv i v₃) (hP : ∀ i v, Pv i v → i < N → ∃ d, ds[i]? = some d ∧ Rp C.w.params (vw C.hid σ₁ h₁) v d)
    (hk₄ : ∀ b o, b ∉ [I] → h₂.get? b = some o → s₄.heap.get? b = some o) (st₃' : St (i + 1) s₄.heap) (g₃ : Hg (C.hide [I, A, L]) σ₂ h₂) (e₃ : He C.w.params (C.hide [I, A, L]).hid cenv ρ' (vw (C.hide [I, A, L]).hid σ₂ h₂) h₂) (st₃ : Stp [] (C.hide [I, A, L]).hid C.fs σ₁ h₁ σ₂ h₂)
    (K : ∀ d h₅ tk m, ds[i]? = some d → Hg (C.hide [I, A, L]) σ₂ h₅ → He C.w.params (C.hide [I, A, L]).hid cenv ((x, d) :: ρ') (vw (C.hide [I, A, L]).hid σ₂ h₅) h₅ → Stp [] (C.hide [I, A, L]).hid C.fs σ₁ h₁ σ₂ h₅ → St (i + 1) h₅ → h₅.Ns L m →
      (∀ o, h₂.get? A = some o → h₅.get? A = some o) → (∀ a o, vw (C.hide [I, A, L]).hid σ₂ h₂ a = some o → ¬ Odd o → vw (C.hide [I, A, L]).hid σ₂ h₅ a = some o) → P { s₄ with heap := h₅, toks := tk }) :
    wpAny (model C.prog C.w) C.A (assign (.Name x px) cenv v₃) (fun _ => P) E s₄ := by
  have hk₄' : ∀ b o, b ≠ I → h₂.get? b = some o → s₄.heap.get? b = some o := fun b o hb => hk₄ b o fun m => hb (List.mem_singleton.mp m)
  obtain ⟨oI, hoI, _⟩ := p.io _ _ st₃'
  have g₄ := g₃.turnK (toH mI) hk₄' hoI (.inr (p.notF mI))
  have e₄ := e₃.turnK (toH mI) (p.notOwn mI p.il) hk₄'
  obtain ⟨d, hd, rd⟩ := hP i v₃ hPv hlt
  have rd' : Rp C.w.params (vw (C.hide [I, A, L]).hid σ₂ s₄.heap) v₃ d := ((rd.mono p.view).mono st₃.view).mono (view_turnK (toH mI) hk₄')
  obtain ⟨m, hm⟩ := e₄.ns
  refine wpAny_assign_Name (wpAny_storeName_local hx hm (fun h₅ hn₅ hs₅ => ?_) (by rw [e₄.kind]; rfl))
  have hk₅ : ∀ b o, b ≠ cenv.locals → s₄.heap.get? b = some o → h₅.get? b = some o := fun b o hb q => hs₅.extBut b o hb q
  have e₅ := e₄.store (d := d) hx hm hn₅ hk₅ rd'
  rw [p.hL] at hn₅ hk₅
  obtain ⟨oL, _, _, hoL, _⟩ := id hn₅
  exact K d h₅ _ _ hd (g₄.turnK (toH mL) hk₅ hoL (.inr (p.notF mL))) e₅ ((st₃.turnK (p.n I mI) hk₄').turnK (p.n L mL) hk₅) (p.frameK mL p.il st₃' hk₅) hn₅
    (fun o q => hk₅ A o p.al (hk₄' A o (Ne.symm p.ia) q)) (fun a o q hd => view_turnK (toH mL) hk₅ a o (view_turnK (toH mI) hk₄' a o q hd) hd)
/-- behind the last turn -/
inductive DoneI (C : Ctx) (env : Env) (ρ : Rho) (σ σ₂ : Store) (h h₄ : Heap) (A L : Addr) : Prop
  | mk : Hg (C.hide [L]) σ₂ h₄ → He C.w.params (C.hide [L]).hid env ρ (vw (C.hide [L]).hid σ₂ h₄) h₄ → Stp [] (C.hide [L]).hid C.fs σ h σ₂ h₄ → A ∉ (C.hide [L]).hid → σ₂ A = none → h.get? L = none → (∃ m, h₄.Ns L m) → DoneI C env ρ σ σ₂ h h₄ A L
theorem Pre.done {env : Env} {ρ : Rho} {σ : Store} (hk₄' : ∀ b o, b ≠ I → h₂.get? b = some o → h₄.get? b = some o) (st₁ : Stp [] C.hid C.fs σ h σ₁ h₁) (e₁ : He C.w.params C.hid env ρ (vw C.hid σ₁ h₁) h₁) (g₃ : Hg (C.hide [I, A, L]) σ₂ h₂)
    (e₃ : He C.w.params (C.hide [I, A, L]).hid cenv ρ' (vw (C.hide [I, A, L]).hid σ₂ h₂) h₂) (st₃ : Stp [] (C.hide [I, A, L]).hid C.fs σ₁ h₁ σ₂ h₂) : DoneI C env ρ σ σ₂ h h₄ A L := by
  have in2 : ∀ a ∈ [I, A], a ∈ [I, A, L] := fun a m => by
    rcases List.mem_cons.mp m with z | m
    · exact z ▸ mI
    · exact List.mem_singleton.mp m ▸ mA
  have kk : ∀ b o, b ∉ [I, A] → h₂.get? b = some o → h₄.get? b = some o := fun b o hb => hk₄' b o fun z => hb (z ▸ .head _)
  have nn : ∀ a ∈ [I, A], a ∉ (C.hide [L]).hid := fun a m q => by
    rcases List.mem_append.mp q with q | q
    · rcases List.mem_cons.mp m with m | m
      · exact p.il (m.symm.trans (List.mem_singleton.mp q))
      · exact p.al ((List.mem_singleton.mp m).symm.trans (List.mem_singleton.mp q))
    · exact (p.fr (in2 a m)).2.2 q
  have hnewL : ∀ a ∈ [L], h₁.get? a = none := fun a m => by rw [List.mem_singleton.mp m]; exact p.n L mL
  have g₅ : Hg (C.hide [L]) σ₂ h₄ := Hg.unhideK (C := C.hide [L]) (new := [I, A]) g₃ p.g.ok.hide nn kk
  have s3 : Stp [] (C.hide [L]).hid C.fs σ₁ h₁ σ₂ h₄ := Stp.turnK (Stp.leave (new := [I, A]) st₃ (fun _ _ q => q) (fun a m => p.n a (in2 a m)) (fun _ h => nomatch h) (fun _ h => nomatch h) (fun a m => .inr m) g₅.ok.hids) (p.n I mI) hk₄'
  have hσL : ∀ a ∈ [L], σ₁ a = none := fun a m => by rw [List.mem_singleton.mp m]; exact (p.fr mL).2.1
  refine ⟨g₅, ?_, (st₁.hideMore hσL).trans s3, nn A (.tail _ (.head _)), p.none2 g₃ mA, ?_, ?_⟩
  · exact (e₁.hide (new := [L]) (h₁ := h₁) (fun _ _ q => q) hnewL).step s3 (fun a q m => (List.mem_append.mp m).elim (fun m => q (hσL a m)) (p.g.hσ a q))
  · cases q : h.get? L with
    | none => rfl
    | some o => obtain ⟨o', q'⟩ := st₁.there L o q; rw [p.n L mL] at q'; cases q'
  · obtain ⟨m, hm⟩ := e₃.ns
    rw [p.hL] at hm
    exact ⟨m, hm.at' fun o q => hk₄' L o (Ne.symm p.il) q⟩
theorem Pre.apart (b : Addr) (o : Obj) (hb : h₁.get? b = some o) : b ≠ A := fun z => by rw [z, p.n A mA] at hb; cases hb
end
inductive PreI (C : Ctx) (cenv : Env) (ρ' : Rho) (σ₁ : Store) (h₁ h₃ : Heap) (I A L : Addr) (fp : List Addr) (N : Nat) (Pv : Nat → Value → Prop) (St : Nat → Heap → Prop) (o0 : Obj) : Prop
  | mk : Pre C cenv σ₁ h₁ I A L fp N Pv St → Hg (C.hide [I, A, L]) σ₁ h₃ → He C.w.params (C.hide [I, A, L]).hid cenv ρ' (vw (C.hide [I, A, L]).hid σ₁ h₃) h₃ → Stp [] (C.hide [I, A, L]).hid C.fs σ₁ h₁ σ₁ h₃ → St 0 h₃ → h₃.get? A = some o0 → PreI C cenv ρ' σ₁ h₁ h₃ I A L fp N Pv St o0
theorem comp_pre {scope : Scope} {cl : List (Str × Addr)} {ρ' : Rho} {σ₁ : Store} {h₀ h₁ h₃ : Heap} {I : Addr} {fp : List Addr} {N : Nat} {Pv : Nat → Value → Prop} {St : Nat → Heap → Prop} {o0 oL : Obj} {m : Str → Option Value}
    (hkind : scope.kind = .function) (hcl : ∀ y c, cl.lookup y = some c → env.cells.lookup y = some c) (hcl2 : ∀ p ∈ cl, p.2 ∈ env.cells.map (·.2)) (hcap : Capt env scope cl ρ ρ') (g₁ : Hg C σ₁ h₀) (e₁ : He C.w.params C.hid env ρ (vw C.hid σ₁ h₀) h₀)
    (hk : ∀ b o, h₀.get? b = some o → h₁.get? b = some o) (hI : h₀.get? I = none) (hIo : ∀ i h, St i h → ∃ o, h.get? I = some o ∧ ¬ Odd o) (Wk : Walks C.prog C.w C.A I fp [I] N Pv St) (st0 : St 0 h₁) (hfp : ∀ b ∈ fp, b = I ∨ ∃ o, vw C.hid σ₁ h₀ b = some o ∧ ¬ Odd o)
    (ho0 : o0.isFreed = false) (hns₃ : h₃.Ns (h₁.push o0).objs.size m) (hsb₃ : Heap.SameBut (h₁.push o0).objs.size ((h₁.push o0).push oL) h₃) :
    PreI C (compEnvC scope cl (h₁.push o0).objs.size env) ρ' σ₁ h₀ h₃ I h₁.objs.size (h₁.push o0).objs.size fp N Pv St o0 := by
  have hLs : (h₁.push o0).objs.size = h₁.objs.size + 1 := Heap.size_push ..
  obtain ⟨oI0, hoI0, _⟩ := hIo 0 h₁ st0
  have old1 : ∀ (b : Addr) (o : Obj), h₁.get? b = some o → b ≠ (h₁.push o0).objs.size := fun b o q => by
    rw [hLs]; exact Nat.ne_of_lt (Nat.lt_succ_of_lt (Heap.lt_size q))
  have hAL : h₁.objs.size ≠ (h₁.push o0).objs.size := by rw [hLs]; exact (Nat.succ_ne_self _).symm
  have k3 : ∀ b o, h₁.get? b = some o → h₃.get? b = some o := fun b o q => hsb₃.extBut b o (old1 b o q) (Heap.get?_push_of_some _ (Heap.get?_push_of_some _ q))
  have hAget : h₃.get? h₁.objs.size = some o0 := hsb₃.extBut _ _ hAL (Heap.get?_push_of_some _ (Heap.get?_push_size _ ho0))
  generalize (h₁.push o0).objs.size = L at *
  have k : ∀ b o, h₀.get? b = some o → h₃.get? b = some o := fun b o q => k3 b o (hk b o q)
  have hnew : ∀ a ∈ [I, h₁.objs.size, L], h₀.get? a = none := fun a m => by
    rcases mem3 m with rfl | rfl | rfl
    · exact hI
    · cases q : h₀.get? h₁.objs.size with
      | none => rfl
      | some o => exact absurd (Heap.lt_size (hk _ _ q)) (Nat.lt_irrefl _)
    · cases q : h₀.get? a with
      | none => rfl
      | some o => exact absurd rfl (old1 _ _ (hk _ _ q))
  have hthere : ∀ a ∈ [I, h₁.objs.size, L], ∃ o, h₃.get? a = some o := fun a m => by
    rcases mem3 m with rfl | rfl | rfl
    · exact ⟨_, k3 _ _ hoI0⟩
    · exact ⟨_, hAget⟩
    · obtain ⟨o, _, _, q, _⟩ := hns₃; exact ⟨o, q⟩
  have g₂ : Hg (C.hide [I, h₁.objs.size, L]) σ₁ h₃ := g₁.hide k hnew hthere
  have ins : ∀ a ∈ ownOf (compEnvC scope cl L env), a = L ∨ a ∈ C.hid := fun a m => by
    rcases List.mem_cons.mp m with m | m
    · exact .inl m
    · obtain ⟨q, hq, z⟩ := List.mem_map.mp m
      exact .inr (z ▸ e₁.ins q.2 (.tail _ (hcl2 q hq)))
  refine ⟨⟨g₁, hnew, Nat.ne_of_lt (Heap.lt_size hoI0), old1 _ _ hoI0, hAL, rfl, ins, Wk, hIo, hfp⟩, g₂, ⟨hkind, e₁.globals, fun a m => ?_, ⟨_, hns₃⟩, fun y c q => ?_, fun y z c q q' => e₁.inj y z c (hcl y c q) (hcl z c q'), fun y d q => ?_⟩, Stp.ofKeep g₂.hσ g₂.ok.hids k, Wk.frame _ _ _ st0 fun b _ o q => k3 b o q, hAget⟩
  · exact List.mem_append.mpr ((ins a m).imp (fun z => by rw [z]; exact mL) id)
  · obtain ⟨w, o, ho, hd⟩ := e₁.cell y c (hcl y c q)
    exact ⟨w, o, k _ _ ho, hd⟩
  · obtain ⟨c1, c2, c3, c4⟩ := hcap (y, d) (lookup_pair q)
    obtain ⟨w, rw', n⟩ := e₁.rd y d c1
    refine ⟨w, rw'.mono (view_enter k hnew), .inr ⟨c3, ?_⟩⟩
    rcases n with ⟨n1, _⟩ | ⟨_, c, n2, o, ho, hd⟩
    · rcases c2 with c2 | c2 <;> (dsimp only at c2; rw [c2] at n1; cases n1)
    · exact ⟨c, c4.trans n2, o, k _ _ ho, hd⟩
theorem capt_wk {scope : Scope} {cl : List (Str × Addr)} {ρ' : Rho} {x : Str} (hcap : Capt env scope cl ρ ρ') (hx : scope.names.lookup x = some .local) (d : D) (y : Str) (dy : D) (q : ρ'.lookup y = some dy) : ((x, d) :: ρ').lookup y = some dy := by
  rw [List.lookup_cons]
  split
  · rename_i z
    rw [beq_iff_eq] at z
    have c3 := (hcap (y, dy) (lookup_pair q)).2.2.1
    have r : (compEnvC scope cl 0 env).kindOf y = some .local := relabel_local (z ▸ hx)
    rcases c3 with c3 | ⟨c3, _⟩ <;> (dsimp only at c3; rw [r] at c3; cases c3)
  · exact q

inductive CInv (C C' : Ctx) (cenv : Env) (ρ' : Rho) (σ₁ : Store) (h₁ : Heap) (s : Shared) (J : Nat → List D → Store → Prop) (St : Nat → Heap → Prop) (A : Addr) (N : Nat) (n : Nat) (s' : Shared) : Prop
  | mk (i : Nat) (acc : List D) (σ' : Store) (ys : Array Value) : J i acc σ' → acc.length ≤ i → i ≤ N → n = N + 1 - i → Upto s s' → Hg C' σ' s'.heap → He C.w.params C'.hid cenv ρ' (vw C'.hid σ' s'.heap) s'.heap →
    Stp [] C'.hid C.fs σ₁ h₁ σ' s'.heap → St i s'.heap → s'.heap.PlainList A ys → RpAll C.w.params (vw C'.hid σ' s'.heap) ys.toList acc → CInv C C' cenv ρ' σ₁ h₁ s J St A N n s'
theorem down {N i : Nat} (h : i < N) : N + 1 - (i + 1) < N + 1 - i := by omega
theorem comp_core {x : Str} {px pos pos' : Pos} {elt iter : Expr} {ifs : List Expr} {scope : Scope} {cl : List (Str × Addr)} {use : Option (Value → Sem Unit)} {Q' : Value → Shared → Prop} {e0 : Env} {outer : List Env} {L0 : Addr} {s : Shared} {Fin : List D → Store → Prop}
    (hs : ∀ x, foldedSetIterable iter env x = pure x) (g : Hg C σ s.heap) (en : He C.w.params C.hid env ρ (vw C.hid σ s.heap) s.heap)
    (hclos : closureFor scope env = pure cl) (hcell : ∀ y ∈ scope.names, y.2 ≠ .cell) (hkind : scope.kind = .function) (hnames : ∀ y ∈ scope.names, y.2 = .local → scope.names.lookup y.1 = some .local) (hx : scope.names.lookup x = some .local)
    (hcl : ∀ y c, cl.lookup y = some c → env.cells.lookup y = some c) (hcl2 : ∀ p ∈ cl, p.2 ∈ env.cells.map (·.2)) (hC : C.envs = e0 :: outer) (hfr : env.frame = e0.frame) (hf0 : e0.frame = some L0)
    (h : Ev C env ρ iter σ (fun it σ₁ => ∃ ds, ds.length ≤ 1000 ∧ WalkD C σ₁ it ds ∧ ∃ ρ', Capt env scope cl ρ ρ' ∧ ∃ J : Nat → List D → Store → Prop, J 0 [] σ₁ ∧
      (∀ i d acc new L σ, ds[i]? = some d → J i acc σ → Tsts (C.hide new) (compEnvC scope cl L env) ((x, d) :: ρ') ifs σ (fun b σ' => if b = true then Ev (C.hide new) (compEnvC scope cl L env) ((x, d) :: ρ') elt σ' (fun y σ'' => J (i + 1) (acc ++ [y]) σ'') X else J (i + 1) acc σ') X) ∧
      ∀ acc σ, J ds.length acc σ → Fin acc σ) X)
    (fin : ∀ A L s' σ' acc, Upto s s' → Hg (C.hide [L]) σ' s'.heap → He C.w.params (C.hide [L]).hid env ρ (vw (C.hide [L]).hid σ' s'.heap) s'.heap → Stp [] (C.hide [L]).hid C.fs σ s.heap σ' s'.heap → Rp C.w.params (vw (C.hide [L]).hid σ' s'.heap) (.ref A) (.lst acc) → Fin acc σ' →
      s.heap.get? L = none → (∃ m, s'.heap.Ns L m) → compPost (model C.prog C.w) C.A (PostX C [] σ s X) use Q' (.ref A) L (.ok .next) s') :
    wpAny (model C.prog C.w) C.A (comprehension (.ListComp elt [⟨.Name x px, iter, ifs, 0⟩] scope pos) scope env pos' (newList []) false (eval iter env) use) Q' (PostX C [] σ s X) s := by
  refine wpAny_comprehension_free (cl := cl) (g := ⟨.Name x px, iter, ifs, 0⟩) (gs := []) rfl hs hclos hkind hnames (Jd.seq g en (.refl s) (.refl g.hσ g.ok.hids) (h.mono (fun it σ₁ q => ?_) fun _ _ x => x))
  obtain ⟨ds, hlen, W, ρ', hcap, J, h0, turn, last⟩ := q
  intro v s₁ u₁ g₁ e₁ st₁ _ r₁
  refine W.out s₁ v g₁ r₁ _ _ fun I h₁ fp Pv St hk hI hIo Wk st0 hfp hP => ?_
  unfold newList
  refine wpAny_newObj_type (wpAny_newFunctionEnv hcell (by intro y hy; simp at hy) (fun h₃ hns₃ hsb₃ => ?_) hkind)
  obtain ⟨p, g₂, e₂, start, st3, hAget⟩ := comp_pre hkind hcl hcl2 hcap g₁ e₁ hk hI hIo Wk st0 hfp rfl hns₃ hsb₃
  dsimp only at p g₂ e₂ start st3 hAget ⊢
  generalize h₁.push { cls := .type "list", dict := none, data := .seq ([] : List Value).toArray } = H2 at *
  generalize H2.objs.size = L at *
  generalize h₁.objs.size = A at *
  have hkx : (compEnvC scope cl L env).kindOf x = some .local := relabel_local hx
  have hcf : (compEnvC scope cl L env).frame = e0.frame := hfr
  have turn := fun i d acc σ a b => turn i d acc [I, A, L] L σ a b
  have loop : codeAny (model C.prog C.w) C.A (.compLoop (.ListComp elt [⟨.Name x px, iter, ifs, 0⟩] scope pos) 0 (.ref I) (.ref A) (compEnvC scope cl L env)) (compPost (model C.prog C.w) C.A (PostX C [] σ s X) use Q' (.ref A) L) ⟨h₃, s₁.gens, s₁.drawn, s₁.toks + ([] : List (Str × Value)).length, s₁.os⟩ := by
    refine codeAny_compLoop_tests (CInv C (C.hide [I, A, L]) (compEnvC scope cl L env) ρ' σ₁ s₁.heap s J St A ds.length) ?_ (ds.length + 1) ⟨0, [], σ₁, #[], h0, Nat.le_refl _, Nat.zero_le _, rfl, u₁.trans .mk', g₂, e₂, start, st3, ⟨0, hAget⟩, .nil⟩
    rintro n s₂ ⟨i, acc, σ₂, ys, hJ, hai, hi, rfl, u₂, g₃, e₃, st₃, sti, hl, hr⟩
    by_cases hlt : i < ds.length
    · refine Wk.item i s₂ _ _ hlt sti fun v₃ h₄ tk₄ hPv st₃' hk₄ => ?_
      refine p.turn (s₂ := s₂) hkx hlt hPv hP hk₄ st₃' g₃ e₃ st₃ fun d h₅ tk₅ m₅ hd g₅ e₅ st₅ sti₅ hn₅ kA kV => ?_
      have u₅ : Upto s ⟨h₅, s₂.gens, s₂.drawn, tk₅, s₂.os⟩ := u₂.trans .mk'
      refine wpAny_mono ((turn i d acc σ₂ hd hJ).out ⟨h₅, _, _, _, _⟩ g₅ e₅) ?_ (fun e s' hx' => p.bad (s₂ := ⟨h₅, _, _, _, _⟩) hC hcf hf0 st₁ u₅ g₅ st₅ hn₅ hx')
      rintro ok s₆ ⟨b, σ₆, u₆, g₆, st₆, rfl, q⟩
      have e₆ := e₅.step st₆ g₅.hσ
      have sti₆ := p.frm g₅ st₅ st₆ sti₅
      have hl₆ : s₆.heap.PlainList A ys := by
        obtain ⟨n, q⟩ := hl
        exact ⟨n, p.own mA g₅ st₆ (not_odd fun vs z => by cases z) (kA _ q)⟩
      have hr₆ := (hr.mono kV).mono st₆.view
      have hn₆ := p.ownNs g₅ st₆ hn₅
      have u₆' := u₅.trans u₆
      have st₅₆ := st₅.trans st₆
      cases ok with
      | false => exact ⟨_, down hlt, i + 1, acc, σ₆, ys, q, Nat.le_succ_of_le hai, hlt, rfl, u₆', g₆, e₆.weak (capt_wk hcap hx d), st₅₆, sti₆, hl₆, hr₆⟩
      | true =>
        have hys : ys.toList.length = acc.length := hr₆.length
        rw [if_pos rfl] at q
        refine wpAny_mono (q.out s₆ g₆ e₆) ?_ (fun e s' hx' => p.bad hC hcf hf0 st₁ u₆' g₆ st₅₆ hn₆ hx')
        rintro y s₇ ⟨dy, σ₇, u₇, g₇, st₇, ry, q⟩
        have hl₇ : s₇.heap.PlainList A ys := by
          obtain ⟨n, q⟩ := hl₆
          exact ⟨n, p.own mA g₆ st₇ (not_odd fun vs z => by cases z) q⟩
        refine wpAny_list_append_plain (hsz := by rw [← Array.length_toList, hys]; exact Nat.le_trans (show acc.length ≤ 1000 by omega) (by decide)) hl₇ fun h₈ hl₈ hs₈ => ?_
        have hk₈ : ∀ b o, b ≠ A → s₇.heap.get? b = some o → h₈.get? b = some o := fun b o hb q => hs₈.extBut b o hb q
        obtain ⟨n8, hl8⟩ := id hl₈
        refine ⟨_, down hlt, i + 1, acc ++ [dy], σ₇, ys.push y, q, by rw [List.length_append]; exact Nat.succ_le_succ hai, hlt, rfl, (u₆'.trans u₇).trans (.mk' (tk := s₇.toks)), g₇.turnK (toH mA) hk₈ hl8 (.inr (p.notF mA)), ((e₆.step st₇ g₆.hσ).turnK (toH mA) (p.notOwn mA p.al) hk₈).weak (capt_wk hcap hx d), (st₅₆.trans st₇).turnK (p.n A mA) hk₈, p.frameK mA p.ia (p.frm g₆ st₅₆ st₇ sti₆) hk₈, hl₈, ?_⟩
        rw [Array.toList_push]
        exact ((hr₆.mono st₇.view).append (.cons ry .nil)).mono (view_turnK (toH mA) hk₈)
    · have hie : i = ds.length := Nat.le_antisymm hi (Nat.le_of_not_lt hlt)
      subst hie
      refine Wk.done s₂ _ _ sti fun h₄ tk₄ hk₄ => ?_
      have hk₄' : ∀ b o, b ≠ I → s₂.heap.get? b = some o → h₄.get? b = some o := fun b o hb => hk₄ b o fun m => hb (List.mem_singleton.mp m)
      obtain ⟨d1, d2, d3, d4, d5, d6, d7⟩ := p.done hk₄' st₁ e₁ g₃ e₃ st₃
      obtain ⟨n, hn⟩ := hl
      refine fin A L ⟨h₄, _, _, _, _⟩ σ₂ acc (u₂.trans .mk') d1 d2 d3 (.lst (n := n) (vw_some.mpr ⟨d4, d5, hk₄' A _ (Ne.symm p.ia) (by rw [Array.toArray_toList]; exact hn)⟩) (hr.mono (view_unhide (new := [I, A]) fun b o hb => hk₄' b o fun z => hb (z ▸ .head _)))) (last acc σ₂ hJ) d6 d7
  exact codeAny_compStart_list loop (Wk.self 0 ⟨h₃, _, _, _, _⟩ _ _ st3 loop)

theorem ev_comp {x : Str} {px pos : Pos} {elt iter : Expr} {ifs : List Expr} {scope : Scope} {cl : List (Str × Addr)} {Q : D → Store → Prop} {e0 : Env} {outer : List Env} {L0 : Addr}
    (hs : ∀ x, foldedSetIterable iter env x = pure x) (hclos : closureFor scope env = pure cl) (hcell : ∀ y ∈ scope.names, y.2 ≠ .cell) (hkind : scope.kind = .function) (hnames : ∀ y ∈ scope.names, y.2 = .local → scope.names.lookup y.1 = some .local) (hx : scope.names.lookup x = some .local)
    (hcl : ∀ y c, cl.lookup y = some c → env.cells.lookup y = some c) (hcl2 : ∀ p ∈ cl, p.2 ∈ env.cells.map (·.2)) (hC : C.envs = e0 :: outer) (hfr : env.frame = e0.frame) (hf0 : e0.frame = some L0)
    (h : Ev C env ρ iter σ (fun it σ₁ => ∃ ds, ds.length ≤ 1000 ∧ WalkD C σ₁ it ds ∧ ∃ ρ', Capt env scope cl ρ ρ' ∧ ∃ J : Nat → List D → Store → Prop, J 0 [] σ₁ ∧
      (∀ i d acc new L σ, ds[i]? = some d → J i acc σ → Tsts (C.hide new) (compEnvC scope cl L env) ((x, d) :: ρ') ifs σ (fun b σ' => if b = true then Ev (C.hide new) (compEnvC scope cl L env) ((x, d) :: ρ') elt σ' (fun y σ'' => J (i + 1) (acc ++ [y]) σ'') X else J (i + 1) acc σ') X) ∧
      ∀ acc σ, J ds.length acc σ → Q (.lst acc) σ) X) : Ev C env ρ (.ListComp elt [⟨.Name x px, iter, ifs, 0⟩] scope pos) σ Q X := by
  refine ⟨fun s g en => ?_⟩
  rw [eval_ListComp]
  show wpAny _ _ (comprehension (.ListComp elt [⟨.Name x px, iter, ifs, 0⟩] scope pos) scope env _ (newList []) false (eval iter env) none) _ _ s
  refine comp_core (Fin := fun acc σ => Q (.lst acc) σ) hs g en hclos hcell hkind hnames hx hcl hcl2 hC hfr hf0 ?_ ?_
  · exact h
  intro A L s' σ' acc u g' e' st r q hL hm
  obtain ⟨m, hm⟩ := hm
  refine (show ∃ m, s'.heap.Ns L m ∧ ∀ h', Heap.SameBut L s'.heap h' → _ from ⟨m, hm, fun h' hb => ?_⟩)
  have kk : ∀ b o, b ∉ [L] → s'.heap.get? b = some o → h'.get? b = some o := fun b o hb' => hb.extBut b o fun z => hb' (z ▸ .head _)
  have nn : ∀ a ∈ [L], a ∉ C.hid := fun a m => by rw [List.mem_singleton.mp m]; exact (g.fresh_ hL).2.2
  refine ⟨_, σ', u.trans (.mk' (tk := s'.toks)), g'.unhideK g.ok nn kk, ?_, r.mono (view_unhide kk), q⟩
  exact (Stp.leave (own' := []) (new := [L]) st (fun _ _ q => q) (fun a m => by rw [List.mem_singleton.mp m]; exact hL) (fun _ h => nomatch h) (fun _ h => nomatch h) (fun a m => .inr m) g.ok.hids).turnK hL fun b o hb' q => hb.extBut b o hb' q

/-- a comprehension stored in a name of the frame's own -/
theorem ex_comp {x y : Str} {px py pos spos : Pos} {elt iter : Expr} {ifs : List Expr} {scope : Scope} {cl : List (Str × Addr)} {Q : FD → Rho → Store → Prop} {e0 : Env} {outer : List Env} {L0 : Addr}
    (hsw : swapsWith (.ListComp elt [⟨.Name x px, iter, ifs, 0⟩] scope pos) (some (.Name y py)) spos.line env = pure true) (hy : env.kindOf y = some .local)
    (hs : ∀ x, foldedSetIterable iter env x = pure x) (hclos : closureFor scope env = pure cl) (hcell : ∀ y ∈ scope.names, y.2 ≠ .cell) (hkind : scope.kind = .function) (hnames : ∀ y ∈ scope.names, y.2 = .local → scope.names.lookup y.1 = some .local) (hx : scope.names.lookup x = some .local)
    (hcl : ∀ y c, cl.lookup y = some c → env.cells.lookup y = some c) (hcl2 : ∀ p ∈ cl, p.2 ∈ env.cells.map (·.2)) (hC : C.envs = e0 :: outer) (hfr : env.frame = e0.frame) (hf0 : e0.frame = some L0)
    (h : Ev C env ρ iter σ (fun it σ₁ => ∃ ds, ds.length ≤ 1000 ∧ WalkD C σ₁ it ds ∧ ∃ ρ', Capt env scope cl ρ ρ' ∧ ∃ J : Nat → List D → Store → Prop, J 0 [] σ₁ ∧
      (∀ i d acc new L σ, ds[i]? = some d → J i acc σ → Tsts (C.hide new) (compEnvC scope cl L env) ((x, d) :: ρ') ifs σ (fun b σ' => if b = true then Ev (C.hide new) (compEnvC scope cl L env) ((x, d) :: ρ') elt σ' (fun y σ'' => J (i + 1) (acc ++ [y]) σ'') X else J (i + 1) acc σ') X) ∧
      ∀ acc σ, J ds.length acc σ → Q .next ((y, .lst acc) :: ρ) σ) X) : Ex C env ρ (.Assign [.Name y py] (.ListComp elt [⟨.Name x px, iter, ifs, 0⟩] scope pos) spos) σ Q X := by
  refine ⟨fun s g en => ?_⟩
  rw [exec_Assign_Name_used _ _ _ _ hsw]
  refine wpAny_bind (wpAny_standAt (wpAny_bind ?_))
  show wpAny _ _ (do let _ ← comprehension (.ListComp elt [⟨.Name x px, iter, ifs, 0⟩] scope pos) scope env _ (newList []) false (eval iter env) (some (assign (.Name y py) env))) _ _ s
  refine wpAny_bind (wpAny_mono (comp_core (X := X) (Q' := fun _ s' => XPost C env σ s Q .next s') (Fin := fun acc σ => Q .next ((y, .lst acc) :: ρ) σ) hs g en hclos hcell hkind hnames hx hcl hcl2 hC hfr hf0 ?_ ?_) (fun _ s' hq => wpAny_pure (wpAny_pure hq)) ?_)
  · exact h
  · intro A L s' σ' acc u g' e' st r q hL hm
    obtain ⟨m, hm⟩ := hm
    show wpAny _ _ (assign (.Name y py) env (.ref A)) _ _ s'
    refine wpAny_assign_Name ?_
    have st0 : Stp (ownOf env) (C.hide [L]).hid C.fs σ s.heap σ' s'.heap := st.weak (fun _ h => nomatch h) e'.ins
    refine store_name (C := C.hide [L]) (.inl hy) g' e' u st0 r fun s₂ u₂ g₂ e₂ st₂ sx => ?_
    have hLo : L ∉ ownOf env := fun m => (g.fresh_ hL).2.2 (en.ins L m)
    have hLf : L ∉ C.fs := fun m => (g.fresh_ hL).2.2 (g.ok.hids L m)
    refine ⟨m, hm.at' fun o q => ?_, fun h' hb => ?_⟩
    · obtain ⟨o', es, ep, q1, q2, _⟩ := hm
      rw [q] at q1; cases q1
      refine (sx.keep L o q (not_odd fun vs z => by rw [q2] at z; cases z) ?_ hLo).1 hLf
      cases z : σ' L with
      | none => rfl
      | some u => exact absurd (List.mem_append.mpr (.inl (.head _))) (g'.hσ L (by rw [z]; simp))
    · have kk : ∀ b o, b ∉ [L] → s₂.heap.get? b = some o → h'.get? b = some o := fun b o hb' => hb.extBut b o fun z => hb' (z ▸ .head _)
      have nn : ∀ a ∈ [L], a ∉ C.hid := fun a m => by rw [List.mem_singleton.mp m]; exact (g.fresh_ hL).2.2
      refine ⟨.next, _, σ', u₂.trans (.mk' (tk := s₂.toks)), g₂.unhideK g.ok nn kk, e₂.unhideK en.ins nn kk, ?_, .next, q⟩
      exact (Stp.leave (new := [L]) st₂ (fun _ _ q => q) (fun a m => by rw [List.mem_singleton.mp m]; exact hL) (fun a m => .inr m) en.ins (fun a m => .inr m) g.ok.hids).turnK hL fun b o hb' q => hb.extBut b o hb' q
  · rintro e s' ⟨msg, σ', a, b, c, q⟩
    exact ⟨msg, σ', a, b, c.weak (fun _ h => nomatch h) en.ins, q⟩
end
end
section
section
variable {C : Ctx} {σ : Store} {h h' : Heap}
theorem Store.set_self {σ : Store} {a : Addr} {o : AObj} : (σ.set a o) a = some o := if_pos rfl
theorem Store.set_other {σ : Store} {a b : Addr} {o : AObj} (h : b ≠ a) : (σ.set a o) b = σ b := if_neg h
theorem view_put {hid : List Addr} {a : Addr} {o' : AObj} (ha : σ a ≠ none ∨ h.get? a = none) (k : ∀ b o, b ≠ a → h.get? b = some o → h'.get? b = some o) : ∀ b o, vw hid σ h b = some o → ¬ Odd o → vw hid (σ.set a o') h' b = some o := by
  intro b o e _
  obtain ⟨q1, q2, q3⟩ := vw_some.mp e
  have hb : b ≠ a := fun z => by
    subst z
    rcases ha with ha | ha
    · exact ha q2
    · rw [ha] at q3; cases q3
  exact vw_some.mpr ⟨q1, by rw [Store.set_other hb]; exact q2, k b o hb q3⟩
/-- a mutable thing made or turned -/
theorem Hg.put {a : Addr} {o' : AObj} (g : Hg C σ h) (ha : σ a ≠ none ∨ h.get? a = none) (k : ∀ b o, b ≠ a → h.get? b = some o → h'.get? b = some o) (m : Mt C.w.params (vw C.hid (σ.set a o') h') h' a o') : Hg C (σ.set a o') h' := by
  have ha2 : a ∉ C.hid := by
    rcases ha with ha | ha
    · exact g.hσ a ha
    · exact (g.fresh_ ha).2.2
  have nb : C.base.get? a = none := by
    cases q : C.base.get? a with
    | none => rfl
    | some o =>
      rcases ha with ha | ha
      · exact absurd (g.off a o q).2 ha
      · rw [g.stays a o q] at ha; cases ha
  refine ⟨g.ok, fun b o e => k b o (fun z => by rw [z, nb] at e; cases e) (g.stays b o e), fun b o e => ⟨(g.off b o e).1, ?_⟩, ?_, fun b hb => ?_, fun b o e => ?_⟩
  · rw [Store.set_other (fun z => by rw [z, nb] at e; cases e)]; exact (g.off b o e).2
  · have hm : ∀ env ∈ C.envs, ∀ L, env.frame = some L → L ≠ a := fun env he L hL z => ha2 (z ▸ g.ok.hids L (List.mem_filterMap.mpr ⟨env, he, hL⟩))
    have go : ∀ l : List Env, (∀ env ∈ l, env ∈ C.envs) → h.FunFrames C.base l → h'.FunFrames C.base l := by
      intro l
      induction l with
      | nil => intro _ _; trivial
      | cons env r ih =>
        rintro hl ⟨hk, ⟨L, ol, hf, hn', ho, hd'⟩, hr⟩
        exact ⟨hk, ⟨L, ol, hf, hn', k L ol (hm env (hl env (.head _)) L hf) ho, hd'⟩, ih (fun e he => hl e (.tail _ he)) hr⟩
    exact go _ (fun _ h => h) g.frames
  · obtain ⟨o, q⟩ := g.low b hb
    exact ⟨o, k b o (fun z => ha2 (z ▸ hb)) q⟩
  · by_cases z : b = a
    · subst z
      rw [Store.set_self] at e
      cases e
      exact ⟨ha2, m⟩
    · rw [Store.set_other z] at e
      obtain ⟨x, y⟩ := g.at_ b o e
      obtain ⟨ob, hob⟩ := y.there
      exact ⟨x, y.mono (view_put ha k) ((k b ob z hob).trans hob.symm)⟩
theorem Stp.put {a : Addr} {o' : AObj} (g : Hg C σ h) (ha : σ a ≠ none ∨ h.get? a = none) (k : ∀ b o, b ≠ a → h.get? b = some o → h'.get? b = some o) (m : ∃ o, h'.get? a = some o) : Stp [] C.hid C.fs σ h (σ.set a o') h' := by
  refine ⟨(fun _ h => nomatch h), g.ok.hids, fun b o e _ hs _ => ?_, fun b e => ?_, fun b o e => ?_⟩
  · have hb : b ≠ a := fun z => by
      subst z
      rcases ha with ha | ha
      · exact ha hs
      · rw [ha] at e; cases e
    exact ⟨fun _ => k b o hb e, o.slots, k b o hb e⟩
  · by_cases z : b = a
    · subst z
      rcases ha with ha | ha
      · exact ⟨g.hσ b ha, .inl ha⟩
      · exact ⟨(g.fresh_ ha).2.2, .inr ha⟩
    · rw [Store.set_other z] at e
      exact ⟨g.hσ b e, .inl e⟩
  · by_cases z : b = a
    · exact z ▸ m
    · exact ⟨o, k b o z e⟩
/-- a mutable thing becomes a fixed one -/
theorem view_del {hid : List Addr} {a : Addr} : ∀ b o, vw hid σ h b = some o → ¬ Odd o → vw hid (σ.del a) h b = some o := by
  intro b o e _
  obtain ⟨q1, q2, q3⟩ := vw_some.mp e
  refine vw_some.mpr ⟨q1, ?_, q3⟩
  unfold Store.del
  split
  · rfl
  · exact q2
theorem del_some {a b : Addr} {o : AObj} (e : (σ.del a) b = some o) : b ≠ a ∧ σ b = some o := by
  unfold Store.del at e
  split at e
  · cases e
  · exact ⟨by assumption, e⟩
theorem Hg.del {a : Addr} (g : Hg C σ h) : Hg C (σ.del a) h := by
  refine ⟨g.ok, g.stays, fun b o e => ⟨(g.off b o e).1, ?_⟩, g.frames, g.low, fun b o e => ?_⟩
  · have := (g.off b o e).2
    unfold Store.del
    split
    · rfl
    · exact this
  · obtain ⟨x, y⟩ := g.at_ b o (del_some e).2
    exact ⟨x, y.mono view_del rfl⟩
theorem Stp.del {a : Addr} (g : Hg C σ h) : Stp [] C.hid C.fs σ h (σ.del a) h :=
  ⟨(fun _ h => nomatch h), g.ok.hids, fun b o e _ _ _ => ⟨fun _ => e, o.slots, e⟩, fun b e => by
    cases q : (σ.del a) b with
    | none => exact absurd q e
    | some u =>
      have := (del_some q).2
      exact ⟨g.hσ b (by rw [this]; simp), .inl (by rw [this]; simp)⟩, fun b o e => ⟨o, e⟩⟩
theorem del_self {a : Addr} : (σ.del a) a = none := if_pos rfl
theorem Hg.frz_lst {a : Addr} {ds : List D} (g : Hg C σ h) (e : σ a = some (.lst ds)) : Rp C.w.params (vw C.hid (σ.del a) h) (.ref a) (.lst ds) := by
  obtain ⟨x, vs, n, y1, y2⟩ := g.at_ a _ e
  exact .lst (vs := vs.toList) (n := n) (vw_some.mpr ⟨x, del_self, by rw [Array.toArray_toList]; exact y1⟩) (y2.mono view_del)
theorem Hg.frz_dict {a : Addr} {ks : List Str} {ds : List D} (g : Hg C σ h) (e : σ a = some (.dict ks ds)) : Rp C.w.params (vw C.hid (σ.del a) h) (.ref a) (.dict ks ds) := by
  obtain ⟨x, z, es, n, y1, y2, y3⟩ := g.at_ a _ e
  exact .dict z (vw_some.mpr ⟨x, del_self, y1⟩) y2 (y3.mono view_del)
theorem Hg.frz_inst {a dx K : Addr} {ks : List Str} {ds : List D} (g : Hg C σ h) (e : σ a = some (.inst K dx)) (e2 : σ dx = some (.dict ks ds)) : Rp C.w.params (vw C.hid ((σ.del dx).del a) h) (.ref a) (.inst K ks ds) := by
  obtain ⟨x, y⟩ := g.at_ a _ e
  obtain ⟨x', _, es, n, y1, y2, y3⟩ := g.at_ dx _ e2
  refine .inst (vw_some.mpr ⟨x, del_self, y⟩) (vw_some.mpr ⟨x', ?_, y1⟩) y2 ((y3.mono view_del).mono view_del)
  unfold Store.del
  rw [if_pos rfl]
  split <;> rfl
end
section
variable {C : Ctx} {env : Env} {ρ : Rho} {σ : Store} {X : XP}
theorem ev_frz_dict {e : Expr} {Q : D → Store → Prop} (h : Ev C env ρ e σ (fun d σ₁ => ∃ a ks ds, d = .mut a ∧ σ₁ a = some (.dict ks ds) ∧ Q (.dict ks ds) (σ₁.del a)) X) : Ev C env ρ e σ Q X := by
  refine ⟨fun s g en => wpAny_mono (h.out s g en) ?_ fun _ _ x => x⟩
  rintro v s' ⟨d, σ', u, g', st, r, a, ks, ds, rfl, e1, q⟩
  obtain rfl := r.inv
  exact ⟨_, _, u, g'.del, st.trans (.del g'), g'.frz_dict e1, q⟩
theorem call_frz_inst {f : Value} {ds : List D} {Q : D → Store → Prop} (h : CallD C f ds σ (fun d σ₁ => ∃ a K dx ks es, d = .mut a ∧ σ₁ a = some (.inst K dx) ∧ σ₁ dx = some (.dict ks es) ∧ Q (.inst K ks es) ((σ₁.del dx).del a)) X) : CallD C f ds σ Q X := by
  refine ⟨fun s vs g r => wpAny_mono (h.out s vs g r) ?_ fun _ _ x => x⟩
  rintro v s' ⟨d, σ', u, g', st, r, a, K, dx, ks, es, rfl, e1, e2, q⟩
  obtain rfl := r.inv
  exact ⟨_, _, u, g'.del.del, (st.trans (.del g')).trans (.del g'.del), g'.frz_inst e1 e2, q⟩

/-- a method of a mutable list -/
structure MethD (C : Ctx) (σ : Store) (id : String) (a : Addr) (ds : List D) (d : D) (σ' : Store) : Prop where
  out : ∀ (s : Shared) (vs : List Value), Hg C σ s.heap → RpAll C.w.params (vw C.hid σ s.heap) vs ds → ∀ (Q E : Value → Shared → Prop), (∀ v h' tk, Hg C σ' h' → Stp [] C.hid C.fs σ s.heap σ' h' → Rp C.w.params (vw C.hid σ' h') v d → Q v { s with heap := h', toks := tk }) → wpAny (model C.prog C.w) C.A (call (.builtin id) (.ref a :: vs)) Q E s

theorem evalArgs_all {M : Model} {A : Around} {E : Value → Shared → Prop} {s : Shared} {f : Value} {Q : Args → Shared → Prop} {trees : List (Bool × Sem Value)} (hp : trees.any (·.1) = false) (h : wpAny M A (spliced trees) (fun vs s' => Q ⟨vs, []⟩ s') E s) : wpAny M A (evalArgs f true trees []) Q E s := by
  match trees, hp, h with
  | [], _, h =>
    unfold evalArgs
    show wpAny M A (spliced [] >>= _) Q E s
    refine wpAny_bind (wpAny_mono h (fun vs s' h' => ?_) fun _ _ x => x)
    refine wpAny_bind (wpAny_pure ?_)
    refine wpAny_holding ?_
    exact wpAny_bind (wpAny_pure (wpAny_bind (wpAny_pure (wpAny_pure h'))))
  | (false, x) :: rest, _, h => exact evalArgs_plain h
  | (true, x) :: rest, hp, _ => simp at hp
theorem RpAll.unsnoc {P : Params} {V : View} {y : Value} {d : D} {p : List Value} {lds : List D} (h : RpAll P V (p ++ [y]) (lds ++ [d])) : RpAll P V p lds ∧ Rp P V y d := by
  induction lds generalizing p with
  | nil =>
    have e := h.length
    rw [List.length_append, List.length_append] at e
    obtain rfl : p = [] := List.eq_nil_of_length_eq_zero (Nat.add_right_cancel e)
    obtain ⟨v, ws, e, r, _⟩ := h.inv
    cases e
    exact ⟨.nil, r⟩
  | cons e lds ih =>
    cases p with
    | nil =>
      have q := h.length
      rw [List.length_append, List.length_append] at q
      exact absurd (Nat.add_right_cancel q) (Nat.succ_ne_zero _).symm
    | cons v p =>
      obtain ⟨_, _, q, r, rs⟩ := h.inv
      cases q
      exact ⟨.cons r (ih rs).1, (ih rs).2⟩
theorem ev_meth {o : Expr} {name : Str} {apos pos : Pos} {args : List Expr} {id : String} {Q : D → Store → Prop}
    (hbase : attributeBase o name env (eval o env) = eval o env)
    (hfew : ((backTo pos (starEach args env)).all (fun x => !x.1) && (backToKw pos (keywordEach [] env)).all (fun x => x.1.isSome)
      && decide (args.length + ([] : List Keyword).length + (if ([] : List Keyword).isEmpty then 0 else 1) < 30)) = true)
    (hline : (apos.endLine == pos.line) = true) (hp : (backTo pos (starEach args env)).any (·.1) = false)
    (slot : Slot "list" name id) (hty : typeOf (.builtin id) = pure (.type "method_descriptor"))
    (h : Ev C env ρ o σ (fun ov σ₁ => ∃ a lds, ov = .mut a ∧ σ₁ a = some (.lst lds) ∧ Evs C env ρ pos args σ₁ (fun ds σ₂ => ∃ dr σ₃, MethD C σ₂ id a ds dr σ₃ ∧ Q dr σ₃) X) X) :
    Ev C env ρ (.Call (.Attribute o name apos) args [] pos) σ Q X := by
  refine ⟨fun s g en => ?_⟩
  refine wpAny_Call_method hbase hfew hline PySem.F.plainAttrs_list slot hty (Jd.seq g en (.refl s) (.refl g.hσ g.ok.hids) (h.mono (fun ov σ₁ q => ?_) fun _ _ x => x))
  obtain ⟨a, lds, rfl, e1, q⟩ := q
  intro v s₁ u₁ g₁ e₁ st₁ _ r
  obtain rfl := r.inv
  obtain ⟨_, vs, n, y1, _⟩ := g₁.at_ a _ e1
  refine ⟨⟨_, y1, rfl⟩, fun b hb => by cases hb; exact ⟨_, y1, rfl⟩, ?_⟩
  refine callWith_builtin hp (evalArgs_all hp (Jd.seq g₁ e₁ u₁ st₁ (q.mono (fun ds σ₂ q => ?_) fun _ _ x => x)))
  obtain ⟨dr, σ₃, hm, q⟩ := q
  intro ws s₂ u₂ g₂ e₂ st₂ _ r₂
  exact hm.out s₂ ws g₂ r₂ _ _ fun v h' tk g₃ st₃ r₃ => ⟨dr, σ₃, u₂.trans .mk', g₃, st₂.trans st₃, r₃, q⟩

theorem meth_append {a : Addr} {lds : List D} {d : D} (e : σ a = some (.lst lds)) (hl : lds.length ≤ 10000) : MethD C σ "list.append" a [d] .none (σ.set a (.lst (lds ++ [d]))) := by
  refine ⟨fun s vs g r Q E k => ?_⟩
  obtain ⟨v, ws, rfl, r1, r'⟩ := r.inv
  obtain rfl := r'.inv
  · obtain ⟨x, its, n, y1, y2⟩ := g.at_ a _ e
    have hz : its.size ≤ sizeLine := by
      have := y2.length
      rw [Array.length_toList] at this
      exact Nat.le_trans (show its.size ≤ 10000 by omega) (by decide)
    refine append_at (hsz := hz) y1 fun h' hb ho' => ?_
    have ha : σ a ≠ none ∨ s.heap.get? a = none := .inl (by rw [e]; simp)
    have kk : ∀ b o, b ≠ a → s.heap.get? b = some o → h'.get? b = some o := fun b o q z => hb.extBut b o q z
    exact k .none h' s.toks (g.put ha kk ⟨_, _, ho', by rw [Array.toList_push]; exact (y2.append (.cons r1 .nil)).mono (view_put ha kk)⟩) (.put g ha kk ⟨_, ho'⟩) .none
theorem kl_turn1 {h : Heap} {D : Addr} {its its' : Array Value} {n : Nat} (f : Array Value → Array Value) (e : h.get? D = some (listOf its n)) (he : f its = its') : ∃ n', (h.update D (Obj.mapSeq f)).get? D = some (listOf its' n') := by
  have q := PySem.IsL.update e f
  rw [he] at q
  exact ⟨_, q⟩
theorem meth_pop {a : Addr} {lds : List D} {d : D} (e : σ a = some (.lst (lds ++ [d]))) (hl : lds.length ≤ 10000) : MethD C σ "list.pop" a [] d (σ.set a (.lst lds)) := by
  refine ⟨fun s vs g r Q E k => ?_⟩
  obtain rfl := r.inv
  obtain ⟨x, its, n, y1, y2⟩ := g.at_ a _ e
  have hlen := y2.length
  rw [List.length_append, List.length_singleton] at hlen
  have hsp : ∃ p y, its.toList = p ++ [y] := by
    refine ⟨its.toList.dropLast, its.toList.getLast (by intro z; rw [z] at hlen; simp at hlen), ?_⟩
    rw [List.dropLast_concat_getLast]
  obtain ⟨p, y, hpy⟩ := hsp
  have ei : its = (p ++ [y]).toArray := by rw [← hpy, Array.toArray_toList]
  subst ei
  have hpl : p.length = lds.length := by simp at hlen; exact hlen
  rw [show (p ++ [y]).toArray.toList = p ++ [y] from rfl] at y2
  have hr := y2.unsnoc
  have hz' : (p ++ [y]).toArray.size ≤ sizeLine := by
    rw [List.size_toArray, List.length_append, List.length_singleton]
    exact Nat.le_trans (show p.length + 1 ≤ 10001 by omega) (by decide)
  have hk : (p ++ [y]).toArray.size - 1 = p.length := by rw [List.size_toArray, List.length_append]; rfl
  have hy : (p ++ [y]).toArray[(p ++ [y]).toArray.size - 1]? = some y := by rw [hk]; simp
  obtain ⟨n', hn'⟩ := kl_turn1 (fun xs => xs.eraseIdxIfInBounds ((p ++ [y]).toArray.size - 1)) y1 (its' := p.toArray) (by
    show (p ++ [y]).toArray.eraseIdxIfInBounds ((p ++ [y]).toArray.size - 1) = p.toArray
    rw [hk, kl_erase, List.append_nil])
  have ha : σ a ≠ none ∨ s.heap.get? a = none := .inl (by rw [e]; simp)
  refine call_meets PySem.F.slot_list_pop ⟨_, y1, rfl⟩ PySem.F.entry_list_pop (PySem.F.args_list_pop_1 _) (PySem.MeetsSeq.list_pop_last a _ n y hy hz') ⟨y1, ?_⟩
  have hb : Heap.SameBut a s.heap (s.heap.update a (Obj.mapSeq fun xs => xs.eraseIdxIfInBounds ((p ++ [y]).toArray.size - 1))) := Heap.SameBut.update ..
  have kk : ∀ b o, b ≠ a → s.heap.get? b = some o → (s.heap.update a (Obj.mapSeq fun xs => xs.eraseIdxIfInBounds ((p ++ [y]).toArray.size - 1))).get? b = some o := fun b o q z => hb.extBut b o q z
  exact k y _ s.toks (g.put ha kk ⟨_, _, hn', hr.1.mono (view_put ha kk)⟩) (.put g ha kk ⟨_, hn'⟩) (hr.2.mono (view_put ha kk))
theorem RpAll.reverse {P : Params} {V : View} {vs : List Value} {ds : List D} (h : RpAll P V vs ds) : RpAll P V vs.reverse ds.reverse := by
  induction ds generalizing vs with
  | nil => obtain rfl := h.inv; exact .nil
  | cons d ds ih => obtain ⟨v, us, rfl, a, r⟩ := h.inv; rw [List.reverse_cons, List.reverse_cons]; exact (ih r).append (.cons a .nil)
theorem meth_reverse {a : Addr} {lds : List D} (e : σ a = some (.lst lds)) (hl : lds.length ≤ 10000) : MethD C σ "list.reverse" a [] .none (σ.set a (.lst lds.reverse)) := by
  refine ⟨fun s vs g r Q E k => ?_⟩
  obtain rfl := r.inv
  obtain ⟨x, its, n, y1, y2⟩ := g.at_ a _ e
  have hz : its.size ≤ sizeLine := by
    have := y2.length
    rw [Array.length_toList] at this
    exact Nat.le_trans (show its.size ≤ 10000 by omega) (by decide)
  obtain ⟨n', hn'⟩ := kl_turn1 (fun x => x.reverse) y1 (its' := its.toList.reverse.toArray) (by
    apply Array.toList_inj.mp
    simp)
  have ha : σ a ≠ none ∨ s.heap.get? a = none := .inl (by rw [e]; simp)
  refine call_meets PySem.F.slot_list_reverse ⟨_, y1, rfl⟩ PySem.F.entry_list_reverse (PySem.F.args_list_reverse_1 _) (AutoSeq1.list_reverse_list_0 a its n hz) ⟨y1, ?_⟩
  have hb : Heap.SameBut a s.heap (s.heap.update a (Obj.mapSeq fun x => x.reverse)) := Heap.SameBut.update ..
  have kk : ∀ b o, b ≠ a → s.heap.get? b = some o → (s.heap.update a (Obj.mapSeq fun x => x.reverse)).get? b = some o := fun b o q z => hb.extBut b o q z
  exact k .none _ s.toks (g.put ha kk ⟨_, _, hn', y2.reverse.mono (view_put ha kk)⟩) (.put g ha kk ⟨_, hn'⟩) .none
end
end
section
theorem lookup_append_some {β : Type} {x : Str} {v : β} : ∀ {l r : List (Str × β)}, l.lookup x = some v → (l ++ r).lookup x = some v
  | (y, b) :: l, r, e => by
    rw [List.cons_append, List.lookup_cons]
    rw [List.lookup_cons] at e
    split
    · rename_i z; rw [z] at e; exact e
    · rename_i z; rw [z] at e; exact lookup_append_some e
theorem lookup_append_none {β : Type} {x : Str} : ∀ {l r : List (Str × β)}, l.lookup x = none → (l ++ r).lookup x = r.lookup x
  | [], r, e => rfl
  | (y, b) :: l, r, e => by
    rw [List.cons_append, List.lookup_cons]
    rw [List.lookup_cons] at e
    split
    · rename_i z; rw [z] at e; cases e
    · rename_i z; rw [z] at e; exact lookup_append_none e
theorem bindL_none {k : Str → Option NameKind} {y : Str} : ∀ {l : List (Str × Value)} {m : Str → Option Value}, l.reverse.lookup y = none → bindL k l m y = m y
  | [], m, _ => rfl
  | (n, v) :: r, m, e => by
    rw [List.reverse_cons] at e
    cases q : r.reverse.lookup y with
    | some w => rw [lookup_append_some q] at e; cases e
    | none =>
      rw [lookup_append_none q, List.lookup_cons] at e
      unfold bindL
      rw [bindL_none q]
      split at e
      · cases e
      · rename_i z
        split
        · exact if_neg (by intro h; rw [h] at z; simp at z)
        · rfl
theorem bindL_some {k : Str → Option NameKind} {y : Str} {v : Value} (hk : k y = some .local) : ∀ {l : List (Str × Value)} {m : Str → Option Value}, l.reverse.lookup y = some v → bindL k l m y = some v
  | (n, w) :: r, m, e => by
    rw [List.reverse_cons] at e
    unfold bindL
    cases q : r.reverse.lookup y with
    | some u => rw [lookup_append_some q] at e; cases e; exact bindL_some hk q
    | none =>
      rw [lookup_append_none q, List.lookup_cons] at e
      rw [bindL_none q]
      split at e
      · rename_i z
        cases e
        rw [beq_iff_eq] at z
        subst z
        rw [if_pos hk, if_pos rfl]
      · cases e
theorem bindC_none {k : Str → Option NameKind} {y : Str} : ∀ {l : List (Str × Value)} {m : Str → Option Value}, l.reverse.lookup y = none → bindC k l m y = m y
  | [], m, _ => rfl
  | (n, v) :: r, m, e => by
    rw [List.reverse_cons] at e
    cases q : r.reverse.lookup y with
    | some w => rw [lookup_append_some q] at e; cases e
    | none =>
      rw [lookup_append_none q, List.lookup_cons] at e
      unfold bindC
      rw [bindC_none q]
      split at e
      · cases e
      · rename_i z
        split
        · rfl
        · exact if_neg (by intro h; rw [h] at z; simp at z)
theorem bindC_some {k : Str → Option NameKind} {y : Str} {v : Value} (hk : k y ≠ some .local) : ∀ {l : List (Str × Value)} {m : Str → Option Value}, l.reverse.lookup y = some v → bindC k l m y = some v
  | (n, w) :: r, m, e => by
    rw [List.reverse_cons] at e
    unfold bindC
    cases q : r.reverse.lookup y with
    | some u => rw [lookup_append_some q] at e; cases e; exact bindC_some hk q
    | none =>
      rw [lookup_append_none q, List.lookup_cons] at e
      rw [bindC_none q]
      split at e
      · rename_i z
        cases e
        rw [beq_iff_eq] at z
        subst z
        rw [if_neg hk, if_pos rfl]
      · cases e

theorem call_defC {C : Ctx} {σ : Store} {X : XP} {Q : D → Store → Prop} {name qual : Str} {params : Arguments} {body : List Stmt} {scope : Scope} {dV kV doc pm cdv ct oc : Value} {an od : Option Addr} {osl : Array (Option Value)} {f : Addr} {ds : List D} {ns : List Str} {ρ : Rho}
    (ho : C.K.lookup f = some ⟨oc, od, .func (fnOf name qual params body scope dV kV doc pm an cdv ct), osl⟩) (hcd : codeIn C.K cdv qual = true) (hfu : 0 < C.fuel)
    (hbind : ∀ (s : Shared) (vs : List Value), vs.length = ds.length → BindsTo s (fnOf name qual params body scope dV kV doc pm an cdv ct) ⟨vs, []⟩ (ns.zip vs))
    (hρ : (ns.zip ds).reverse = ρ) (hloc : ∀ n, ∀ y ∈ ns, scope.names.lookup y = some .local ∨ (scope.names.lookup y = some .cell ∧ ((cellsFrom n scope.names []).lookup y).isSome = true)) (hnd : ((cellsFrom 0 scope.names []).map (·.1)).Nodup)
    (h : ∀ L', Exs (C.enter (envOfC qual scope L' f cdv) (ownOf (envOfC qual scope L' f cdv)) (C.fuel - 1)) (envOfC qual scope L' f cdv) ρ body σ (Back Q) X)
    (hco : scope.isCoroutine = false) (hgen : scope.isGenerator = false) (hk : scope.kind = .function) : CallD C (.ref f) ds σ Q X := by
  refine ⟨fun s vs g r => ?_⟩
  have hroom : C.A.depth < recursionLimit := Nat.lt_of_le_of_lt (Nat.le_add_right _ _) g.ok.depth
  refine wpAny_call (codeAny_call_function (fd := fnOf name qual params body scope dV kV doc pm an cdv ct) (body := body) hroom (g.K_heap ho) rfl hco hgen rfl (codeRec_of (g.ok.wd.X.keeps g.stays) hcd) (hbind s vs r.length _ _ _ _ ?_))
  refine wpAny_newFunctionEnv_cells hk (fun x hx => hloc _ x.1 (List.of_mem_zip hx).1) fun env he s₁ x => ?_
  have he' : env = envOfC qual scope s.heap.objs.size f cdv := he
  clear he
  subst he'
  refine ⟨(g.ok.wd.nolimit.keeps g.stays).keeps x.toInCall.keep, codeAny_func ?_⟩
  obtain ⟨h₁, tk, rfl⟩ := x.toInCall.same
  have hk₁ := x.toInCall.keep
  have hkf : (envOfC qual scope s.heap.objs.size f cdv).kindOf = fun y => scope.names.lookup y := rfl
  have above : ∀ n c, (n, c) ∈ (envOfC qual scope s.heap.objs.size f cdv).cells → s.heap.objs.size < c := x.above
  have hnone : ∀ a, s.heap.objs.size ≤ a → s.heap.get? a = none := fun a ha => Heap.get?_none_of_le ha
  have hnew : ∀ a ∈ ownOf (envOfC qual scope s.heap.objs.size f cdv), s.heap.get? a = none := fun a m => by
    rcases List.mem_cons.mp m with rfl | m
    · exact hnone _ (Nat.le_refl _)
    · obtain ⟨p, hp, rfl⟩ := List.mem_map.mp m
      exact hnone _ (Nat.le_of_lt (above p.1 p.2 hp))
  have cellAt : ∀ p ∈ (envOfC qual scope s.heap.objs.size f cdv).cells, h₁.IsCell p.2 (bindC (envOfC qual scope s.heap.objs.size f cdv).kindOf (ns.zip vs) (fun _ => none) p.1) := fun p hp =>
    x.cell p.1 p.2 (lookup_of_mem_nodup (cellsFrom_names scope.names 0 (s.heap.objs.size + 1) [] [] rfl ▸ hnd) hp)
  have hthere : ∀ a ∈ ownOf (envOfC qual scope s.heap.objs.size f cdv), ∃ o, h₁.get? a = some o := fun a m => by
    rcases List.mem_cons.mp m with rfl | m
    · obtain ⟨o, _, _, q, _⟩ := x.toInCall.ns
      exact ⟨o, q⟩
    · obtain ⟨p, hp, rfl⟩ := List.mem_map.mp m
      obtain ⟨o, q, _⟩ := cellAt p hp
      exact ⟨o, q⟩
  have g₁ : Hg (C.enter (envOfC qual scope s.heap.objs.size f cdv) (ownOf (envOfC qual scope s.heap.objs.size f cdv)) (C.fuel - 1)) σ h₁ :=
    g.enter (L := s.heap.objs.size) hk₁ hnew hthere rfl (.head _) x.toInCall.ns hk (by omega)
  have e₁ : He C.w.params (ownOf (envOfC qual scope s.heap.objs.size f cdv) ++ C.hid) (envOfC qual scope s.heap.objs.size f cdv) ρ (vw (ownOf (envOfC qual scope s.heap.objs.size f cdv) ++ C.hid) σ h₁) h₁ := by
    refine ⟨hk, rfl, fun a m => List.mem_append.mpr (.inl m), ⟨_, x.toInCall.ns⟩, fun y c e => ⟨_, x.cell y c e⟩, fun y z c e e' => name_of_addr x.apart (mem_of_lookup e) (mem_of_lookup e'), fun y d e => ?_⟩
    have e' : ((ns.zip ds).reverse ++ []).lookup y = some d := by rw [List.append_nil, hρ]; exact e
    obtain ⟨v, hv, hr⟩ := lookup_zip (r.mono (view_enter hk₁ hnew)) (as := []) (bs := []) (fun y e he => by cases he) e'
    rw [List.append_nil] at hv
    refine ⟨v, hr, ?_⟩
    have hmem : y ∈ ns := by
      have := lookup_key hv
      rw [List.mem_map] at this
      obtain ⟨p, hp, rfl⟩ := this
      exact (List.of_mem_zip (List.mem_reverse.mp hp)).1
    rcases hloc (s.heap.objs.size + 1) y hmem with hl | ⟨hl, hc⟩
    · exact .inl ⟨hl, _, x.toInCall.ns, bindL_some hl hv⟩
    · obtain ⟨c, hc⟩ := Option.isSome_iff_exists.mp hc
      refine .inr ⟨.inl hl, c, hc, ?_⟩
      have := x.cell y c hc
      rw [bindC_some (k := (envOfC qual scope s.heap.objs.size f cdv).kindOf) (by show scope.names.lookup y ≠ _; rw [hl]; decide) hv] at this
      exact this
  refine wpAny_mono ((h s.heap.objs.size).out ⟨h₁, _, _, _, _⟩ g₁ e₁) ?_ ?_
  · rintro fl s' ⟨fd, ρ', σ', u, g', e', st, rf, q⟩
    have gg : Hg C σ' s'.heap := Hg.leave g' g.ok
    have ss : Stp [] C.hid C.fs σ s.heap σ' s'.heap := Stp.leave st hk₁ hnew (fun a m => .inl m) (fun _ h => nomatch h) (enter_fs rfl (.head _)) g.ok.hids
    have uu : Upto s s' := Upto.trans (s₁ := ⟨h₁, _, _, _, _⟩) (.mk' (tk := tk)) u
    cases rf with
    | ret r => exact ⟨_, σ', uu, gg, ss, r.mono view_leave, q⟩
    | next => exact ⟨_, σ', uu, gg, ss, .none, q⟩
    | brk => exact ⟨_, σ', uu, gg, ss, .none, q⟩
    | cont => exact ⟨_, σ', uu, gg, ss, .none, q⟩
  · rintro e s' ⟨msg, σ', u, R, st, q⟩
    refine leave_raised (C := C.enter (envOfC qual scope s.heap.objs.size f cdv) (ownOf (envOfC qual scope s.heap.objs.size f cdv)) (C.fuel - 1)) (C₀ := C) rfl rfl ⟨rfl, rfl, rfl, fun a m => List.mem_append.mpr (.inr m)⟩ g.ok rfl R fun h' R' st' => ?_
    refine ⟨msg, σ', ?_, R', ?_, q⟩
    · exact (Upto.trans (s₁ := ⟨h₁, _, _, _, _⟩) (.mk' (tk := tk)) u).trans (.mk' (tk := s'.toks))
    · refine Stp.leave (st.trans (st'.weak (fun _ h => nomatch h) st.sub)) hk₁ hnew (fun a m => .inl m) (fun _ h => nomatch h) (enter_fs rfl (.head _)) g.ok.hids
section
variable {C : Ctx} {σ : Store} {X : XP} {Q : D → Store → Prop} {name qual : Str} {params : Arguments} {body : List Stmt} {scope : Scope} {dV kV doc pm cdv ct oc : Value} {an od : Option Addr} {osl : Array (Option Value)} {f : Addr}
def KOk (scope : Scope) (y : Str) : Prop := ∀ n, scope.names.lookup y = some .local ∨ (scope.names.lookup y = some .cell ∧ ((cellsFrom n scope.names []).lookup y).isSome = true)
theorem call1C {n1 : Str} {d1 : D} (ho : C.K.lookup f = some ⟨oc, od, .func (fnOf name qual params body scope dV kV doc pm an cdv ct), osl⟩) (hcd : codeIn C.K cdv qual = true) (hfu : 0 < C.fuel)
    (hb : ∀ (s : Shared) (x : Value), BindsTo s (fnOf name qual params body scope dV kV doc pm an cdv ct) ⟨[x], []⟩ [(n1, x)]) (hl : KOk scope n1)
    (h : ∀ L', Exs (C.enter (envOfC qual scope L' f cdv) (ownOf (envOfC qual scope L' f cdv)) (C.fuel - 1)) (envOfC qual scope L' f cdv) [(n1, d1)] body σ (Back Q) X)
    (hco : scope.isCoroutine = false) (hgen : scope.isGenerator = false) (hk : scope.kind = .function) (hnd : ((cellsFrom 0 scope.names []).map (·.1)).Nodup) : CallD C (.ref f) [d1] σ Q X :=
  call_defC (ns := [n1]) ho hcd hfu (fun s vs h => by obtain ⟨x, rfl⟩ := len1 h; exact hb s x) rfl (fun n y hy => by rw [List.mem_singleton.mp hy]; exact hl n) hnd h hco hgen hk
theorem call2C {n1 n2 : Str} {d1 d2 : D} (ho : C.K.lookup f = some ⟨oc, od, .func (fnOf name qual params body scope dV kV doc pm an cdv ct), osl⟩) (hcd : codeIn C.K cdv qual = true) (hfu : 0 < C.fuel)
    (hb : ∀ (s : Shared) (x y : Value), BindsTo s (fnOf name qual params body scope dV kV doc pm an cdv ct) ⟨[x, y], []⟩ [(n1, x), (n2, y)]) (hl : KOk scope n1) (hl2 : KOk scope n2)
    (h : ∀ L', Exs (C.enter (envOfC qual scope L' f cdv) (ownOf (envOfC qual scope L' f cdv)) (C.fuel - 1)) (envOfC qual scope L' f cdv) [(n2, d2), (n1, d1)] body σ (Back Q) X)
    (hco : scope.isCoroutine = false) (hgen : scope.isGenerator = false) (hk : scope.kind = .function) (hnd : ((cellsFrom 0 scope.names []).map (·.1)).Nodup) : CallD C (.ref f) [d1, d2] σ Q X :=
  call_defC (ns := [n1, n2]) ho hcd hfu (fun s vs h => by obtain ⟨x, y, rfl⟩ := len2 h; exact hb s x y) rfl (fun n y hy => by
    rcases List.mem_cons.mp hy with rfl | hy
    · exact hl n
    · rw [List.mem_singleton.mp hy]; exact hl2 n) hnd h hco hgen hk
theorem call3C {n1 n2 n3 : Str} {d1 d2 d3 : D} (ho : C.K.lookup f = some ⟨oc, od, .func (fnOf name qual params body scope dV kV doc pm an cdv ct), osl⟩) (hcd : codeIn C.K cdv qual = true) (hfu : 0 < C.fuel)
    (hb : ∀ (s : Shared) (x y z : Value), BindsTo s (fnOf name qual params body scope dV kV doc pm an cdv ct) ⟨[x, y, z], []⟩ [(n1, x), (n2, y), (n3, z)]) (hl : KOk scope n1) (hl2 : KOk scope n2) (hl3 : KOk scope n3)
    (h : ∀ L', Exs (C.enter (envOfC qual scope L' f cdv) (ownOf (envOfC qual scope L' f cdv)) (C.fuel - 1)) (envOfC qual scope L' f cdv) [(n3, d3), (n2, d2), (n1, d1)] body σ (Back Q) X)
    (hco : scope.isCoroutine = false) (hgen : scope.isGenerator = false) (hk : scope.kind = .function) (hnd : ((cellsFrom 0 scope.names []).map (·.1)).Nodup) : CallD C (.ref f) [d1, d2, d3] σ Q X :=
  call_defC (ns := [n1, n2, n3]) ho hcd hfu (fun s vs h => by obtain ⟨x, y, z, rfl⟩ := len3 h; exact hb s x y z) rfl (fun n y hy => by
    rcases List.mem_cons.mp hy with rfl | hy
    · exact hl n
    · rcases List.mem_cons.mp hy with rfl | hy
      · exact hl2 n
      · rw [List.mem_singleton.mp hy]; exact hl3 n) hnd h hco hgen hk
end
end
section
section
variable {C : Ctx} {σ σ' : Store} {h h' : Heap}
theorem Hg.there {a : Addr} {o : AObj} (g : Hg C σ h) (e : σ a = some o) : ∃ ob, h.get? a = some ob := (g.at_ a o e).2.there
theorem Hg.old {a : Addr} (g : Hg C σ h) (n : h.get? a = none) : σ a = none := (g.fresh_ n).2.1
theorem view_grow {hid : List Addr} (k : ∀ b o, h.get? b = some o → h'.get? b = some o) (hd : ∀ a o, h.get? a = some o → σ' a = σ a) : ∀ b o, vw hid σ h b = some o → ¬ Odd o → vw hid σ' h' b = some o := by
  intro b o e _
  obtain ⟨q1, q2, q3⟩ := vw_some.mp e
  exact vw_some.mpr ⟨q1, (hd b o q3).trans q2, k b o q3⟩
/-- new mutable things, the old ones as they were -/
theorem Hg.grow (g : Hg C σ h) (k : ∀ b o, h.get? b = some o → h'.get? b = some o) (hd : ∀ a o, h.get? a = some o → σ' a = σ a) (m : ∀ a o, h.get? a = none → σ' a = some o → Mt C.w.params (vw C.hid σ' h') h' a o) : Hg C σ' h' := by
  have g' := g.keep k
  refine ⟨g.ok, g'.stays, fun b o e => ⟨(g.off b o e).1, (hd b o (g.stays b o e)).trans (g.off b o e).2⟩, g'.frames, g'.low, fun b o e => ?_⟩
  cases q : h.get? b with
  | none => exact ⟨(g.fresh_ q).2.2, m b o q e⟩
  | some ob =>
    rw [hd b ob q] at e
    obtain ⟨x, y⟩ := g.at_ b o e
    exact ⟨x, y.mono (view_grow k hd) ((k b ob q).trans q.symm)⟩
theorem Stp.grow (g : Hg C σ h) (k : ∀ b o, h.get? b = some o → h'.get? b = some o) (hd : ∀ a o, h.get? a = some o → σ' a = σ a) : Stp [] C.hid C.fs σ h σ' h' := by
  refine ⟨(fun _ h => nomatch h), g.ok.hids, fun b o e _ _ _ => ⟨fun _ => k b o e, o.slots, k b o e⟩, fun b e => ?_, fun b o e => ⟨o, k b o e⟩⟩
  cases q : h.get? b with
  | none => exact ⟨(g.fresh_ q).2.2, .inr rfl⟩
  | some ob => rw [hd b ob q] at e; exact ⟨g.hσ b e, .inl e⟩
theorem Hg.low_size (g : Hg C σ h) : sysModules < h.objs.size := modules_low (g.ok.wd.nolimit.keeps g.stays)
theorem Hg.size_ne (g : Hg C σ h) {a : Addr} (ha : h.objs.size ≤ a) : (a == sysModules) = false := beq_eq_false_iff_ne.mpr (Nat.ne_of_gt (Nat.lt_of_lt_of_le g.low_size ha))
end

def fld (name : Str) : List Str → List D → Option D
  | k :: ks, d :: ds => if k = name then some d else fld name ks ds
  | _, _ => none
def putK (name : Str) : List Str → List Str
  | [] => [name]
  | k :: ks => if k = name then k :: ks else k :: putK name ks
def putV (name : Str) (d : D) : List Str → List D → List D
  | k :: ks, x :: xs => if k = name then d :: xs else x :: putV name d ks xs
  | _, _ => [d]
section
variable {P : Params} {V : View}
theorem isStr_str {x name : Str} {t : Tok} : (Value.str x t).isStr name = decide (x = name) := by
  show (x == name) = _
  by_cases h : x = name
  · subst h; simp
  · simp [h]
theorem keyed_noref {es : List DictEntry} {ks : List Str} (hk : Keyed P es ks) : es.any (·.refKey) = false := by
  induction es generalizing ks with
  | nil => rfl
  | cons e es ih =>
    cases ks with
    | nil => exact hk.elim
    | cons k ks =>
      obtain ⟨⟨t, h⟩, _, r⟩ := hk
      rw [List.any_cons, ih r, Bool.or_false]
      unfold DictEntry.refKey
      rw [h]
theorem keyed_get {name : Str} {d : D} {es : List DictEntry} {ks : List Str} {ds : List D} (hk : Keyed P es ks) (hr : RpAll P V (es.map (·.val)) ds) (e : fld name ks ds = some d) : ∃ e, es.find? (·.key.isStr name) = some e ∧ Rp P V e.val d := by
  induction es generalizing ks ds with
  | nil =>
    cases ks with
    | nil => cases e
    | cons k ks => exact hk.elim
  | cons en es ih =>
    cases ks with
    | nil => exact hk.elim
    | cons k ks =>
      cases ds with
      | nil => cases e
      | cons d' ds =>
        obtain ⟨⟨t, h⟩, _, r⟩ := hk
        obtain ⟨_, _, q, rv, rr⟩ := hr.inv
        obtain ⟨rfl, rfl⟩ := List.cons.inj q
        unfold fld at e
        rw [List.find?_cons, h, isStr_str]
        by_cases z : k = name
        · rw [if_pos z] at e
          rw [decide_eq_true z]
          exact ⟨en, rfl, Option.some.inj e ▸ rv⟩
        · rw [if_neg z] at e
          rw [decide_eq_false z]
          exact ih r rr e
theorem keyed_getL {name : Str} {d : D} {es : List DictEntry} {ks : List Str} {ds : List D} (h : Keyed P es ks) (r : RpAll P V (es.map (·.val)) ds) (e : fld name ks ds = some d) : ∃ v, getL name es = some (some v) ∧ Rp P V v d := by
  obtain ⟨en, h1, h2⟩ := keyed_get h r e
  refine ⟨en.val, ?_, h2⟩
  unfold getL
  rw [h1]
theorem keyed_getSome {name : Str} {es : List DictEntry} {ks : List Str} (h : Keyed P es ks) : (getL name es).isSome = true := by
  unfold getL
  split
  · rfl
  · rw [keyed_noref h]; rfl
theorem keyed_put {name : Str} {t : Tok} {v : Value} {d : D} {es : List DictEntry} {ks : List Str} {ds : List D} (hk : Keyed P es ks) (hr : RpAll P V (es.map (·.val)) ds) (rv : Rp P V v d) :
    Keyed P (putL name (PyData.keyHash P name) (.str name t) v es) (putK name ks) ∧ RpAll P V ((putL name (PyData.keyHash P name) (.str name t) v es).map (·.val)) (putV name d ks ds) := by
  induction es generalizing ks ds with
  | nil =>
    cases ks with
    | nil => exact ⟨⟨⟨t, rfl⟩, rfl, trivial⟩, .cons rv .nil⟩
    | cons k ks => exact hk.elim
  | cons en es ih =>
    cases ks with
    | nil => exact hk.elim
    | cons k ks =>
      cases ds with
      | nil => exact absurd hr.length (Nat.succ_ne_zero _)
      | cons d' ds =>
        obtain ⟨⟨u, h⟩, hh, r⟩ := hk
        obtain ⟨_, _, q, rv', rr⟩ := hr.inv
        obtain ⟨rfl, rfl⟩ := List.cons.inj q
        unfold putL putK putV
        rw [h, isStr_str]
        by_cases z : k = name
        · rw [decide_eq_true z, if_pos rfl, if_pos z, if_pos z]
          exact ⟨⟨⟨u, rfl⟩, hh, r⟩, .cons rv rr⟩
        · rw [decide_eq_false z, if_neg (by decide), if_neg z, if_neg z]
          exact ⟨⟨⟨u, h⟩, hh, (ih r rr).1⟩, .cons rv' (ih r rr).2⟩
theorem keyed_length {es : List DictEntry} {ks : List Str} (hk : Keyed P es ks) : es.length = ks.length := by
  induction es generalizing ks with
  | nil =>
    cases ks with
    | nil => rfl
    | cons k ks => exact hk.elim
  | cons en es ih =>
    cases ks with
    | nil => exact hk.elim
    | cons k ks => exact congrArg (· + 1) (ih hk.2.2)
theorem putL_length (name : Str) (hs : Int) (k v : Value) : ∀ es : List DictEntry, (putL name hs k v es).length ≤ es.length + 1
  | [] => Nat.le_refl _
  | e :: es => by
    unfold putL
    split
    · exact Nat.le_succ _
    · exact Nat.succ_le_succ (putL_length name hs k v es)
theorem rp_handed {v : Value} {d : D} (r : Rp P V v d) (h : d.notGlob) : handedIn v = true := by
  cases r <;> first | rfl | exact h.elim
end

section
variable {prog : Program} {w : World} {A : Around} {s : Shared} {K : Frag} {R : Result → Shared → Prop}
/-- an attribute stored in the dict of an object -/
theorem inst_setattr {C x dx : Addr} {name : Str} {v : Value} {es : List DictEntry} {n : Nat} {E : Value → Shared → Prop} {Q : Unit → Shared → Prop} (X : K.In s.heap) (hx : s.heap.get? x = some (instObj C dx)) (hdx : s.heap.get? dx = some (dictOf es n))
    (hs : findIn K (.ref C) "__setattr__" = some (some (.builtin "object.__setattr__"))) (hp : plainOver K C = true) (ht : takerIn K C name = some none) (hh : (clsIn K C).any (·.hasDict) = true)
    (hk : Keyed w.params es ks) (hz : es.length ≤ 900)
    (h : ∀ h' n', Heap.SameBut dx s.heap h' → h'.get? dx = some (dictOf (putL name (PyData.keyHash w.params name) (.str name (s.toks + 1)) v es) n') → Q () { s with heap := h', toks := s.toks + 2 }) :
    wpAny (model prog w) A (setAttr (.ref x) name v) Q E s := by
  obtain ⟨hp', gg, dr, tk, os⟩ := s
  dsimp only at X hx hdx h
  have I : InstAt hp' x (instObj C dx) C (some (dictOf es n)) := ⟨hx, rfl, rfl, hdx⟩
  refine set_plain X I hs (osa_open (s := ⟨hp', gg, dr, tk + 1, os⟩) X I hp ht fun b => ?_)
  obtain ⟨cd, hc, hd'⟩ := any_some hh
  have hl := keyed_getSome (name := name) hk
  refine wpAny_bind (wpAny_pure (wpAny_bind (wpAny_bind (wpAny_loadPart hx (wpAny_bind ((looks_clsIn X hc).here ?_))))))
  rw [hd']
  refine wpAny_pure (a := some dx) (wpAny_bind (wpAny_pure (wpAny_bind ?_)))
  unfold nsSet
  refine wpAny_bind (wpAny_bind (wpAny_askSetting (wpAny_pure (wpAny_bind (wpAny_mkText (wpAny_bind (wpAny_loadPart hdx ?_)))))))
  dsimp only
  have c : (!es.toArray.any (·.key.isStr name) && es.toArray.any (·.refKey)) = false := by
    rw [← Array.any_toList, ← Array.any_toList, keyed_noref hk, Bool.and_false]
  rw [aRefKeyMayBeTheName_at, c]
  refine wpAny_updatePart hdx ?_
  have hD' := Heap.get?_update_self (Obj.putName name (PyData.keyHash w.params name) (.str name (tk + 1)) v) hdx (by rw [putName_dict]; rfl)
  rw [putName_dict] at hD'
  refine wpAny_bind (wpAny_lookBehind hD' (pastItsLine_dict (by have := putL_length name (PyData.keyHash w.params name) (.str name (tk + 1)) v es; rw [List.size_toArray, sizeLine_eq]; omega)) ?_)
  exact wpAny_pure (h _ _ (Heap.SameBut.update ..) hD')
end
section
variable {C : Ctx} {env : Env} {ρ : Rho} {σ : Store} {X : XP}
/-- what holds of the class of vectors -/
theorem vec_get {P : Params} (name : Str) (h : name = "kind" ∨ name = "items" ∨ name = "attrs") : findIn (frag P) (.ref 250) name = some none := by
  rcases h with rfl | rfl | rfl <;> rfl
theorem attr_at {Cl x dx : Addr} {s : Shared} {name : Str} {v : Value} {es : List DictEntry} {n : Nat} {E : Value → Shared → Prop} {Q : Value → Shared → Prop} {prog : Program} {w : World} {A : Around} {K : Frag} (X : K.In s.heap) (hx : s.heap.get? x = some (instObj Cl dx)) (hdx : s.heap.get? dx = some (dictOf es n))
    (hg : plainGet K Cl name = true) (hh : hasDictIn K Cl = true) (ha : findIn K (.ref Cl) name = some none) (hl : getL name es = some (some v)) (hv : handedIn v = true) (h : Q v { s with toks := s.toks + 1 }) :
    wpAny (model prog w) A (getAttr (.ref x) name true) Q E s :=
  get_value X ⟨hx, rfl, rfl, hdx⟩ (plainGet_of hg).1 (findObj_own (attr := none) hh ha rfl (by rw [lookIn_dict]; exact hl)) hv h
theorem ev_attr {e : Expr} {name : Str} {pos : Pos} {Q : D → Store → Prop} (hn : name = "kind" ∨ name = "items" ∨ name = "attrs")
    (he : eval (.Attribute e name pos) env = (do let o ← eval e env; standAt pos.atName; let r ← holding [o] (getAttr o name true); letTemporaryGo e o r; pure r))
    (h : Ev C env ρ e σ (fun a σ₁ => ∃ ks ds d, a = .inst 250 ks ds ∧ fld name ks ds = some d ∧ d.notGlob ∧ Q d σ₁) X) : Ev C env ρ (.Attribute e name pos) σ Q X := by
  refine ⟨fun s g en => ?_⟩
  refine Attribute_any_ (Jd.seq g en (.refl s) (.refl g.hσ g.ok.hids) (h.mono (fun a σ₁ q => ?_) fun _ _ x => x)) he
  obtain ⟨ks, ds, d, rfl, hf, hng, q⟩ := q
  intro v s₁ u₁ g₁ e₁ st₁ _ r
  obtain ⟨x, dx, es, n, rfl, hx, hdx, hk, hr⟩ := r.inv
  · obtain ⟨v, hl, rv⟩ := keyed_getL hk hr hf
    exact attr_at (K := C.K) g₁.K_in (vw_some.mp hx).2.2 (vw_some.mp hdx).2.2 (by rfl) (by rfl) (vec_get name hn) hl (rp_handed rv hng) ⟨d, σ₁, u₁.trans .mk', g₁, st₁, rv, q⟩

/-- an attribute of a vector in the making -/
theorem ex_setattr {x name : Str} {p1 p2 pos : Pos} {e : Expr} {Q : FD → Rho → Store → Prop} (hn : name = "kind" ∨ name = "items" ∨ name = "attrs")
    (hs : swapsWith e (some (.Attribute (.Name x p1) name p2)) pos.line env = pure false)
    (h : Ev C env ρ e σ (fun d σ₁ => Ev C env ρ (.Name x p1) σ₁ (fun o σ₂ => ∃ a dx ks ds, o = .mut a ∧ σ₂ a = some (.inst 250 dx) ∧ σ₂ dx = some (.dict ks ds) ∧ ks.length ≤ 900 ∧ Q .next ρ (σ₂.set dx (.dict (putK name ks) (putV name d ks ds)))) X) X) :
    Ex C env ρ (.Assign [.Attribute (.Name x p1) name p2] e pos) σ Q X := by
  refine ⟨fun s g en => ?_⟩
  refine plainObj_wpAny_Assign_Attribute (Jd.seqX g en (.refl s) (.start g en) (h.mono (fun d σ₁ q => ?_) fun _ _ x => x)) hs
  intro v s₁ u₁ g₁ e₁ st₁ _ rv
  refine Jd.seqX g₁ e₁ u₁ st₁ (q.mono (fun o σ₂ q => ?_) fun _ _ x => x)
  obtain ⟨a, dx, ks, ds, rfl, h1, h2, hz, q⟩ := q
  intro ov s₂ u₂ g₂ e₂ st₂ st ro
  obtain rfl := ro.inv
  obtain ⟨_, m1⟩ := g₂.at_ a _ h1
  obtain ⟨hdh, hd0, es, n, m2, m3, m4⟩ := g₂.at_ dx _ h2
  have rv2 := rv.mono st.view
  refine inst_setattr (K := C.K) (C := 250) (dx := dx) (ks := ks) (es := es) (n := n) g₂.K_in m1 m2 (by rfl) (by rfl) ?_ (by rfl) m3 (by rw [keyed_length m3]; exact hz) fun h' n' sb hd' => ?_
  · unfold takerIn
    rw [show findIn C.K (.ref 250) name = some none from vec_get name hn]
    rfl
  have ha : σ₂ dx ≠ none ∨ s₂.heap.get? dx = none := .inl (by rw [h2]; simp)
  have kk : ∀ b o, b ≠ dx → s₂.heap.get? b = some o → h'.get? b = some o := fun b o q z => sb.extBut b o q z
  obtain ⟨y1, y2⟩ := keyed_put (name := name) (t := s₂.toks + 1) m3 m4 rv2
  have P := Stp.put (o' := .dict (putK name ks) (putV name d ks ds)) g₂ ha kk ⟨_, hd'⟩
  have g₃ : Hg C (σ₂.set dx (.dict (putK name ks) (putV name d ks ds))) h' := g₂.put ha kk ⟨hd0, _, n', hd', y1, y2.mono (view_put ha kk)⟩
  exact ⟨.next, ρ, _, u₂.trans .mk', g₃, e₂.step P g₂.hσ, st₂.trans (P.weak (fun _ h => nomatch h) e₂.ins), .next, q⟩
end
abbrev vecK : List Str := ["kind", "items", "attrs", "shared", "loose"]
section
variable {C : Ctx} {σ : Store} {X : XP} {Q : D → Store → Prop}
theorem set_two {a b : Addr} {o p : AObj} {c : Addr} (h : c ≠ a) (h' : c ≠ b) : ((σ.set a o).set b p) c = σ c := by
  rw [Store.set_other h', Store.set_other h]
structure VI (K : Frag) (hp : Heap) (x dx L : Addr) (m : Str → Option Value) (h : Heap) (es : List DictEntry) : Prop where
  X : K.In h
  x : h.get? x = some (instObj 250 dx)
  d : ∃ n, h.get? dx = some (dictOf es n)
  ns : h.Ns L m
  keep : ∀ b o, hp.get? b = some o → h.get? b = some o
theorem VI.step {K : Frag} {hp h h' : Heap} {x dx L : Addr} {m : Str → Option Value} {es es' : List DictEntry} {n' : Nat} (v : VI K hp x dx L m h es) (KI : K.In hp) (hx : x ≠ dx) (hL : L ≠ dx) (hd : hp.get? dx = none) (sb : Heap.SameBut dx h h') (e : h'.get? dx = some (dictOf es' n')) : VI K hp x dx L m h' es' := by
  have kp : ∀ b o, hp.get? b = some o → h'.get? b = some o := fun b o q => sb.extBut b o (fun z => by rw [z, hd] at q; cases q) (v.keep b o q)
  exact ⟨KI.keeps kp, sb.extBut _ _ hx v.x, ⟨n', e⟩, v.ns.sameBut sb hL, kp⟩
theorem vset {prog : Program} {w : World} {A : Around} {V : View} {hp : Heap} {x dx L : Addr} {m : Str → Option Value} {es : List DictEntry} {ks : List Str} {ds : List D} {s : Shared} {name : Str} {v : Value} {d : D} {E : Value → Shared → Prop} {Q : Unit → Shared → Prop} (VV : VI (frag w.params) hp x dx L m s.heap es) (KI : (frag w.params).In hp) (hx : x ≠ dx) (hL : L ≠ dx) (hd : hp.get? dx = none)
    (hk : Keyed w.params es ks) (hr : RpAll w.params V (es.map (·.val)) ds) (rv : Rp w.params V v d) (ht : takerIn (frag w.params) 250 name = some none) (hz : ks.length ≤ 900)
    (h : ∀ h' tk es', VI (frag w.params) hp x dx L m h' es' → Keyed w.params es' (putK name ks) → RpAll w.params V (es'.map (·.val)) (putV name d ks ds) → Q () { s with heap := h', toks := tk }) :
    wpAny (model prog w) A (setAttr (.ref x) name v) Q E s := by
  obtain ⟨n, hn⟩ := VV.d
  obtain ⟨y1, y2⟩ := keyed_put (name := name) (t := s.toks + 1) hk hr rv
  exact inst_setattr (K := frag w.params) VV.X VV.x hn (by rfl) (by rfl) ht (by rfl) hk (by rw [keyed_length hk]; exact hz) fun h' n' sb hd' => h h' _ _ (VV.step KI hx hL hd sb hd') y1 y2
theorem vector_call {dk di : D} (hf : 2 ≤ C.fuel) (q : ∀ x dx, x ≠ dx → σ x = none → σ dx = none → Q (.mut x) ((σ.set dx (.dict vecK [dk, di, .none, .bool false, .bool false])).set x (.inst 250 dx))) : CallD C (.ref 250) [dk, di] σ Q X := by
  refine ⟨fun s vs g r => ?_⟩
  obtain ⟨vk, vi, rfl, rk, ri⟩ := r.two
  clear r
  obtain ⟨hp, gg, dr, tk, os⟩ := s
  dsimp only at g rk ri
  have KI : C.K.In hp := g.K_in
  refine wpAny_call (make_core (makes_of KI (by rfl)) (looks_findIn KI (name := "__init__") (r := some (.ref 240)) (by rfl)) (fun self => bind_fn KI self (by rfl)) (.inl rfl) ?_)
  have hdn : hp.get? hp.objs.size = none := none_size
  have hxn : hp.get? (hp.objs.size + 1) = none := Heap.get?_none_of_le (Nat.le_succ _)
  have hxd : hp.objs.size + 1 ≠ hp.objs.size := Nat.succ_ne_self _
  have hds : (hp.objs.size == sysModules) = false := g.size_ne (Nat.le_refl _)
  have hsz : ((hp.push emptyDict).push (instObj 250 hp.objs.size)).objs.size = hp.objs.size + 2 := by rw [Heap.size_push, Heap.size_push]
  have kk : ∀ b o, hp.get? b = some o → ((hp.push emptyDict).push (instObj 250 hp.objs.size)).get? b = some o := fun b o e => Heap.get?_push_of_some _ (Heap.get?_push_of_some _ e)
  have hxo : ((hp.push emptyDict).push (instObj 250 hp.objs.size)).get? (hp.objs.size + 1) = some (instObj 250 hp.objs.size) := by heap_get
  have hdo : ((hp.push emptyDict).push (instObj 250 hp.objs.size)).get? hp.objs.size = some (dictOf [] 0) := Heap.get?_push_of_some _ (Heap.get?_push_at rfl rfl)
  generalize hx : hp.objs.size + 1 = x at *
  generalize hdx : hp.objs.size = dx at *
  generalize hh1 : (hp.push emptyDict).push (instObj 250 dx) = h1 at *
  have X1 : C.K.In h1 := KI.keeps kk
  have hd0 : (C.A.under (.builtin "type.__call__" ⟨.ref 250 :: [vk, vi], []⟩)).depth < recursionLimit := by
    have := g.ok.depth
    rw [depth_under_make]; omega
  refine codeAny_call_def (fd := _) (body := _) (binds := [(Str.ofString "self", .ref x), (Str.ofString "kind", vk), (Str.ofString "items", vi), (Str.ofString "attrs", .none)]) hd0 (X1 240 _ rfl) rfl ((g.ok.wd.nolimit.keeps g.stays).keeps kk) (codeRec_of X1 (cd := .ref 239) (q := Str.ofString "Vector.__init__") rfl) rfl (binds_K X1 rfl (by rfl) rfl rfl rfl) (by decide) (locs rfl) (fun h₁ hns hk₁ => ?_) rfl rfl rfl
  have hL : h1.objs.size ≠ dx := by rw [hsz]; exact Nat.ne_of_gt (Nat.lt_add_of_pos_right (by decide))
  have V0 : VI (frag C.w.params) hp x dx h1.objs.size _ h₁ [] := ⟨X1.keeps hk₁, hk₁ _ _ hxo, ⟨0, hk₁ _ _ hdo⟩, hns, fun b o e => hk₁ b o (kk b o e)⟩
  refine wpAny_execs_cons (plainObj_wpAny_Assign_Attribute (wpAny_Name (wpAny_loadName_local rfl rfl V0.ns rfl (wpAny_Name (wpAny_loadName_local rfl rfl V0.ns rfl (vset (ks := []) (ds := []) V0 KI hxd hL hdn trivial .nil rk (by rfl) (by decide) fun h2 t2 e2 V2 k2 r2 => ?_)) rfl)) rfl) rfl)
  refine wpAny_execs_cons (plainObj_wpAny_Assign_Attribute (wpAny_Name (wpAny_loadName_local rfl rfl V2.ns rfl (wpAny_Name (wpAny_loadName_local rfl rfl V2.ns rfl (vset V2 KI hxd hL hdn k2 r2 ri (by rfl) (by decide) fun h3 t3 e3 V3 k3 r3 => ?_)) rfl)) rfl) rfl)
  refine wpAny_execs_cons (plainObj_wpAny_Assign_Attribute (wpAny_Name (wpAny_loadName_local rfl rfl V3.ns rfl (wpAny_Name (wpAny_loadName_local rfl rfl V3.ns rfl (vset V3 KI hxd hL hdn k3 r3 .none (by rfl) (by decide) fun h4 t4 e4 V4 k4 r4 => ?_)) rfl)) rfl) rfl)
  refine wpAny_execs_cons (plainObj_wpAny_Assign_Attribute (Constant_bool (wpAny_Name (wpAny_loadName_local rfl rfl V4.ns rfl (vset V4 KI hxd hL hdn k4 r4 (.bool false) (by rfl) (by decide) fun h5 t5 e5 V5 k5 r5 => ?_)) rfl)) rfl)
  refine wpAny_execs_cons (plainObj_wpAny_Assign_Attribute (Constant_bool (wpAny_Name (wpAny_loadName_local rfl rfl V5.ns rfl (vset V5 KI hxd hL hdn k5 r5 (.bool false) (by rfl) (by decide) fun h6 t6 e6 V6 k6 r6 => ?_)) rfl)) rfl)
  refine wpAny_execs_nil ⟨rfl, ?_⟩
  have hsx : σ x = none := g.old hxn
  have hsd : σ dx = none := g.old hdn
  have old : ∀ a o, hp.get? a = some o → ((σ.set dx (.dict vecK [dk, di, .none, .bool false, .bool false])).set x (.inst 250 dx)) a = σ a := fun a o e => set_two (fun z => by rw [z, hdn] at e; cases e) (fun z => by rw [z, hxn] at e; cases e)
  obtain ⟨n6, hn6⟩ := V6.d
  have g' : Hg C ((σ.set dx (.dict vecK [dk, di, .none, .bool false, .bool false])).set x (.inst 250 dx)) h6 := g.grow V6.keep old fun a o hn e => by
    by_cases z : a = x
    · subst z
      rw [Store.set_self] at e
      cases e
      exact V6.x
    · rw [Store.set_other z] at e
      by_cases z' : a = dx
      · subst z'
        rw [Store.set_self] at e
        cases e
        exact ⟨hds, e6, n6, hn6, k6, r6.mono (view_grow V6.keep old)⟩
      · rw [Store.set_other z', g.old hn] at e
        cases e
  exact ⟨_, _, .mk', g', Stp.grow g V6.keep old, .mut x, q x dx hxd hsx hsd⟩
end
end
section
section
variable {prog : Program} {w : World} {h : Heap} {d : Addr} {P : Params} {V : View}
theorem is_key {k : Str} {e : DictEntry} {t : Tok} (h : e.key = .str k t) : (PySem.strKind prog w).is k e.key = true := by
  show Value.isStrOf k e.key = true; rw [h]; simp [Value.isStrOf]
theorem keyed_pairs {es : List DictEntry} {ks : List Str} (hk : Keyed w.params es ks) : Pairs (PySem.strKind prog w) es (ks.zip (es.map (·.val))) := by
  induction es generalizing ks with
  | nil =>
    cases ks with
    | nil => exact .nil
    | cons k ks => exact hk.elim
  | cons e es ih =>
    cases ks with
    | nil => exact hk.elim
    | cons k ks =>
      obtain ⟨⟨t, h⟩, _, r⟩ := hk
      exact .cons (is_key h) rfl (ih r)
theorem keyed_keys {es : List DictEntry} {ks : List Str} (hk : Keyed w.params es ks) : ∀ e ∈ es, ∃ k, (PySem.strKind prog w).is k e.key = true ∧ e.hash = (PySem.strKind prog w).hash k := by
  induction es generalizing ks with
  | nil => exact fun _ m => nomatch m
  | cons e es ih =>
    cases ks with
    | nil => exact hk.elim
    | cons k ks =>
      obtain ⟨⟨t, h⟩, hh, r⟩ := hk
      intro e' m
      rcases List.mem_cons.mp m with z | m
      · rw [z]; exact ⟨k, is_key h, hh⟩
      · exact ih r e' m
theorem zip_fst {es : List DictEntry} {ks : List Str} (hk : Keyed P es ks) : (ks.zip (es.map (·.val))).map (·.1) = ks := by
  have := keyed_length hk
  apply List.map_fst_zip
  rw [List.length_map]; omega
theorem dictOf_of {es : List DictEntry} {n : Nat} {ks : List Str} (ho : h.get? d = some (dictOf es n)) (hk : Keyed w.params es ks) (hn : ks.Nodup) : h.DictOf (PySem.strKind prog w) d (ks.zip (es.map (·.val))) := by
  refine ⟨_, es.toArray, n, ho, ⟨rfl, rfl, rfl⟩, rfl, fun e he => keyed_keys hk e (by simpa using he), by simpa using keyed_pairs hk, ?_⟩
  rw [zip_fst hk]; exact hn
theorem pairs_keyed {es : List DictEntry} {kvs : List (Str × Value)} (hk : ∀ e ∈ es, ∃ k, (PySem.strKind prog w).is k e.key = true ∧ e.hash = (PySem.strKind prog w).hash k) (p : Pairs (PySem.strKind prog w) es kvs) : Keyed w.params es (kvs.map (·.1)) ∧ es.map (·.val) = kvs.map (·.2) := by
  induction p with
  | nil => exact ⟨trivial, rfl⟩
  | @cons e kv es kvs h1 h2 r ih =>
    obtain ⟨a, b⟩ := ih fun e he => hk e (.tail _ he)
    obtain ⟨k, k1, k2⟩ := hk e (.head _)
    have hkk : k = kv.1 := (PySem.strKind prog w).inj _ _ _ k1 h1
    refine ⟨⟨Value.isStrOf_shape h1, by rw [k2, hkk]; rfl, a⟩, by rw [List.map_cons, List.map_cons, h2, b]⟩
theorem of_dictOf {kvs : List (Str × Value)} (x : h.DictOf (PySem.strKind prog w) d kvs) : ∃ es n, h.get? d = some (dictOf es n) ∧ Keyed w.params es (kvs.map (·.1)) ∧ es.map (·.val) = kvs.map (·.2) := by
  obtain ⟨⟨oc, od, oda, osl⟩, es, n, ho, ⟨h1, h2, h3⟩, hd, hk, hp, _⟩ := x
  dsimp only at h1 h2 h3 hd
  subst h1 h2 h3 hd
  obtain ⟨a, b⟩ := pairs_keyed (fun e he => hk e (by simpa using he)) hp
  exact ⟨es.toList, n, by rw [ho], a, b⟩
theorem valueAt_fld {name : Str} {dd : D} {es : List DictEntry} {ks : List Str} {ds : List D} (hk : Keyed P es ks) (hr : RpAll P V (es.map (·.val)) ds) (e : fld name ks ds = some dd) : ∃ v, valueAt (ks.zip (es.map (·.val))) name = some v ∧ Rp P V v dd := by
  induction es generalizing ks ds with
  | nil =>
    cases ks with
    | nil => cases e
    | cons k ks => exact hk.elim
  | cons en es ih =>
    cases ks with
    | nil => exact hk.elim
    | cons k ks =>
      cases ds with
      | nil => cases e
      | cons d' ds =>
        obtain ⟨_, _, r⟩ := hk
        obtain ⟨_, _, q, rv, rr⟩ := hr.inv
        obtain ⟨rfl, rfl⟩ := List.cons.inj q
        unfold fld at e
        unfold valueAt
        rw [List.map_cons, List.zip_cons_cons, List.find?_cons]
        by_cases z : k = name
        · rw [if_pos z] at e
          rw [decide_eq_true z]
          exact ⟨_, rfl, Option.some.inj e ▸ rv⟩
        · rw [if_neg z] at e
          rw [decide_eq_false z]
          exact ih r rr e
theorem RpAll.zipSnd {es : List DictEntry} {ks : List Str} {ds : List D} (hk : Keyed P es ks) (r : RpAll P V (es.map (·.val)) ds) : RpAll P V ((ks.zip (es.map (·.val))).map (·.2)) ds := by
  have := keyed_length hk
  rw [List.map_snd_zip (by rw [List.length_map]; omega)]
  exact r
theorem RpAll.take {vs : List Value} {ds : List D} (h : RpAll P V vs ds) : ∀ k, RpAll P V (vs.take k) (ds.take k) := fun k => by
  induction ds generalizing vs k with
  | nil => obtain rfl := h.inv; rw [List.take_nil, List.take_nil]; exact .nil
  | cons d ds ih =>
    obtain ⟨v, us, rfl, a, b⟩ := h.inv
    cases k with
    | zero => exact .nil
    | succ k => exact .cons a (ih b k)
end

section
variable {C : Ctx} {env : Env} {ρ : Rho} {σ : Store} {X : XP}
theorem size_old {h : Heap} {b : Addr} {o : Obj} (e : h.get? b = some o) : b ≠ h.objs.size := Nat.ne_of_lt (Heap.lt_size e)
/-- a new frozen thing -/
theorem Hg.fresh_view {h h' : Heap} (g : Hg C σ h) {a : Addr} (n : h.get? a = none) {o : Obj} (e : h'.get? a = some o) : vw C.hid σ h' a = some o :=
  vw_some.mpr ⟨(g.fresh_ n).2.2, g.old n, e⟩
theorem Hg.view_keep {h h' : Heap} (g : Hg C σ h) (k : ∀ b o, h.get? b = some o → h'.get? b = some o) : ∀ b o, vw C.hid σ h b = some o → ¬ Odd o → vw C.hid σ h' b = some o := fun b o e hd => (Stp.ofKeep g.hσ g.ok.hids k).view b o e hd

theorem list_copy {ds : List D} {Q : D → Store → Prop} (hl : ds.length ≤ 10000) (q : Q (.lst ds) σ) : CallD C (.type "list") [.lst ds] σ Q X := by
  refine CallD.pure (d := .lst ds) (fun s vs g r => ?_) q
  obtain ⟨_, rfl, a, vs, n, rfl, he, hr⟩ := r.one
  · · intro Q E k
      have hz : vs.toArray.size ≤ sizeLine := by
        have := hr.length
        rw [List.size_toArray]
        exact Nat.le_trans (show vs.length ≤ 10000 by omega) (by decide)
      exact call_list_seq (hsz := hz) a (.inl rfl) (vw_some.mp he).2.2 rfl rfl fun h' c' hk hD => k _ h' s.toks hk (.lst (g.fresh_view none_size hD) (hr.mono (g.view_keep hk)))
theorem dict_copy {ks : List Str} {ds : List D} {Q : D → Store → Prop} (hn : ks.Nodup) (hl : ks.length ≤ 10000) (q : Q (.dict ks ds) σ) : CallD C (.type "dict") [.dict ks ds] σ Q X := by
  refine CallD.pure (d := .dict ks ds) (fun s vs g r => ?_) q
  obtain ⟨_, rfl, a, es, n, rfl, hz, he, hk, hr⟩ := r.one
  · · intro Q E k
      refine kt_call_dict hz (dictOf_of (prog := C.prog) (vw_some.mp he).2.2 hk hn) ?_ fun h' hm hs => ?_
      · rw [List.length_zip]
        exact Nat.le_trans (Nat.min_le_left _ _) (Nat.le_trans hl (by decide))
      · obtain ⟨es', n', h1, h2, h3⟩ := of_dictOf hm
        have kk : ∀ b o, s.heap.get? b = some o → h'.get? b = some o := fun b o q => hs.extBut b o (size_old q) (Heap.get?_push_of_some _ q)
        rw [zip_fst hk] at h2
        refine k _ h' s.toks kk (.dict (g.size_ne (Nat.le_refl _)) (g.fresh_view none_size h1) h2 ?_)
        rw [h3]
        exact (hr.zipSnd hk).mono (g.view_keep kk)
theorem len_lst {ds : List D} {Q : D → Store → Prop} (hl : ds.length ≤ 10000) (q : Q (.int ds.length) σ) : CallD C (.builtin "len") [.lst ds] σ Q X := by
  refine CallD.pure (d := .int ds.length) (fun s vs g r => ?_) q
  obtain ⟨_, rfl, a, vs, n, rfl, he, hr⟩ := r.one
  · · refine Pure1.here fun Q E k => len_list (items := vs.toArray) ⟨_, (vw_some.mp he).2.2, rfl, n, rfl⟩ ?_ ?_
      · have := hr.length
        rw [List.size_toArray]; omega
      · have := hr.length
        rw [List.size_toArray, this]
        exact k _ _ (.int _ _)
theorem len_s {x : Str} {Q : D → Store → Prop} (hl : x.length ≤ 10000) (q : Q (.int x.length) σ) : CallD C (.builtin "len") [.str x] σ Q X := by
  refine CallD.pure (d := .int x.length) (fun s vs g r => ?_) q
  obtain ⟨_, rfl, t, rfl⟩ := r.one
  exact Pure1.here fun Q E k => len_str (by omega) (k _ _ (.int _ _))
theorem chr_i {i : Int} {Q : D → Store → Prop} (h0 : 0 ≤ i) (h1 : i ≤ 1000) (q : Q (.str ⟨#[i.toNat]⟩) σ) : CallD C (.builtin "chr") [.int i] σ Q X := by
  refine CallD.pure (d := .str ⟨#[i.toNat]⟩) (fun s vs g r => ?_) q
  obtain ⟨_, rfl, t, rfl⟩ := r.one
  exact Pure1.here fun Q E k => chr_of_range h0 (by omega) (k _ _ (.str _ _))

/-- a list's place -/
theorem sub_lst {value slice : Expr} {ds : List D} {i : Int} {d : D} (h0 : 0 ≤ i) (hi : i < 10000) (hd : ds[i.toNat]? = some d) (hs : ∀ t u, subscripted slice false (.ref t) (.int i u) = operate [.ref t, .int i u] (getItem (.ref t) (.int i u)))
    (hg : ∀ t r, letTemporaryGo value (.ref t) r = pure ()) : BinD C σ (subscriptTail value slice) (.lst ds) (.int i) d := by
  refine ⟨fun s va vb g ra rb => ?_⟩
  obtain ⟨u, rfl⟩ := rb.inv
  obtain ⟨a, vs, n, rfl, he, hr⟩ := ra.inv
  · obtain ⟨v, hv, r⟩ := hr.get hd
    exact Pure1.here fun Q E k => item_listL ⟨_, (vw_some.mp he).2.2, rfl, _, rfl⟩ h0 (by omega) hv (k v s.toks r) (hs _ _) (hg _)
/-- displays of mutable things -/
theorem ev_listM {pos : Pos} {Q : D → Store → Prop} (q : ∀ a, σ a = none → Q (.mut a) (σ.set a (.lst []))) : Ev C env ρ (.List [] pos) σ Q X := by
  refine ⟨fun s g en => ?_⟩
  refine wpAny_List_spliced (spliced_none ?_)
  have kk : ∀ b o, s.heap.get? b = some o → (s.heap.push { cls := .type "list", data := .seq ([] : List Value).toArray }).get? b = some o := fun b o e => Heap.get?_push_of_some _ e
  have hn : s.heap.get? s.heap.objs.size = none := none_size
  have old : ∀ a o, s.heap.get? a = some o → (σ.set s.heap.objs.size (.lst [])) a = σ a := fun a o e => Store.set_other (size_old e)
  refine ⟨by decide, .mut s.heap.objs.size, _, .mk' (tk := s.toks), g.grow kk old fun a o ha e => ?_, Stp.grow g kk old, .mut _, q _ (g.old hn)⟩
  by_cases z : a = s.heap.objs.size
  · subst z
    rw [Store.set_self] at e
    cases e
    exact ⟨#[], 0, Heap.get?_push_size _ rfl, .nil⟩
  · rw [Store.set_other z, g.old ha] at e
    cases e
theorem ev_dictM {pos : Pos} {Q : D → Store → Prop} (q : ∀ a, σ a = none → Q (.mut a) (σ.set a (.dict [] []))) : Ev C env ρ (.Dict [] [] pos) σ Q X := by
  refine ⟨fun s g en => wpAny_Dict_empty ?_⟩
  have kk : ∀ b o, s.heap.get? b = some o → (s.heap.push { cls := .type "dict", data := .dict #[] }).get? b = some o := fun b o e => Heap.get?_push_of_some _ e
  have hn : s.heap.get? s.heap.objs.size = none := none_size
  have old : ∀ a o, s.heap.get? a = some o → (σ.set s.heap.objs.size (.dict [] [])) a = σ a := fun a o e => Store.set_other (size_old e)
  refine ⟨.mut s.heap.objs.size, _, .mk' (tk := s.toks), g.grow kk old fun a o ha e => ?_, Stp.grow g kk old, .mut _, q _ (g.old hn)⟩
  by_cases z : a = s.heap.objs.size
  · subst z
    rw [Store.set_self] at e
    cases e
    exact ⟨g.size_ne (Nat.le_refl _), [], 0, Heap.get?_push_size _ rfl, trivial, .nil⟩
  · rw [Store.set_other z, g.old ha] at e
    cases e
theorem ev_dict0 {pos : Pos} {Q : D → Store → Prop} (q : Q (.dict [] []) σ) : Ev C env ρ (.Dict [] [] pos) σ Q X := by
  refine ⟨fun s g en => wpAny_Dict_empty ?_⟩
  have kk : ∀ b o, s.heap.get? b = some o → (s.heap.push { cls := .type "dict", data := .dict #[] }).get? b = some o := fun b o e => Heap.get?_push_of_some _ e
  exact ⟨.dict [] [], σ, .mk' (tk := s.toks), g.keep kk, .ofKeep g.hσ g.ok.hids kk, .dict (es := []) (g.size_ne (Nat.le_refl _)) (g.fresh_view none_size (Heap.get?_push_size _ rfl)) trivial .nil, q⟩

/-- a slice up to a written place -/
theorem evalPart_int {M : Model} {A : Around} {E : Value → Shared → Prop} {s : Shared} {i : Int} {k : Nat} {p : Pos} {Q : Value → Shared → Prop} (h : ∀ tk, Q (.int i tk) { s with toks := s.toks + 1 }) : wpAny M A (evalPart (some (.Constant (.int i) k p)) env) Q E s := by
  unfold evalPart
  exact wpAny_Constant_int (h _)
end
end
section
section
variable {C : Ctx} {env : Env} {ρ : Rho} {σ : Store} {X : XP}
theorem pick_upto (items : Array Value) {k : Int} (hk : 0 ≤ k) : slicePick items none (some k) none = (items.toList.take k.toNat).toArray := by
  rw [kms_pick_eq]
  unfold kms_pick kms_lo kms_hi
  simp only [if_neg (show ¬ k < 0 by omega), List.drop_zero, Nat.sub_zero]
  rw [kmk_take_min]
theorem ev_sliceM {e : Expr} {k : Int} {kk : Nat} {p1 p2 pos : Pos} {Q : D → Store → Prop} (hk : 0 ≤ k) (ht : ∀ o r, letTemporaryGo e o r = pure ())
    (h : Ev C env ρ e σ (fun a σ₁ => ∃ b ds, a = .mut b ∧ σ₁ b = some (.lst ds) ∧ ds.length ≤ 10000 ∧ ∀ c, c ≠ b → σ₁ c = none → Q (.mut c) (σ₁.set c (.lst (ds.take k.toNat)))) X) : Ev C env ρ (.Subscript e (.Slice none (some (.Constant (.int k) kk p1)) none p2) pos) σ Q X := by
  refine ⟨fun s g en => ?_⟩
  refine wpAny_Subscript_list_slice (Jd.seq g en (.refl s) (.refl g.hσ g.ok.hids) (h.mono (fun a σ₁ q => ?_) fun _ _ x => x)) ht
  obtain ⟨b, ds, rfl, hb, hl, q⟩ := q
  intro v s₁ u₁ g₁ e₁ st₁ _ r
  obtain rfl := r.inv
  obtain ⟨_, vs, n, y1, y2⟩ := g₁.at_ b _ hb
  refine wpAny_evalPart_none (evalPart_int fun tk => ⟨b, vs, none, some k, rfl, ⟨_, y1, rfl, n, rfl⟩, ?_, .none, .int _ _, ?_⟩)
  · have := y2.length
    rw [Array.length_toList] at this
    exact Nat.le_trans (show vs.size ≤ 10000 by omega) (by decide)
  · rw [pick_upto _ hk]
    have k1 : ∀ b o, s₁.heap.get? b = some o → ((s₁.heap.push { cls := .type "slice", data := .fields #[.none, .int k tk, .none] }).push { cls := .type "list", data := .seq (vs.toList.take k.toNat).toArray }).get? b = some o := fun b o e => Heap.get?_push_of_some _ (Heap.get?_push_of_some _ e)
    have hn : s₁.heap.get? (s₁.heap.objs.size + 1) = none := Heap.get?_none_of_le (Nat.le_succ _)
    have old : ∀ a o, s₁.heap.get? a = some o → (σ₁.set (s₁.heap.objs.size + 1) (.lst (ds.take k.toNat))) a = σ₁ a := fun a o e => Store.set_other (fun z => by rw [z, hn] at e; cases e)
    refine ⟨.mut (s₁.heap.objs.size + 1), _, u₁.trans .mk', g₁.grow k1 old fun a o ha e => ?_, st₁.trans (Stp.grow g₁ k1 old), .mut _, q _ (fun z => by rw [z, y1] at hn; cases hn) (g₁.old hn)⟩
    by_cases z : a = s₁.heap.objs.size + 1
    · subst z
      rw [Store.set_self] at e
      cases e
      exact ⟨(vs.toList.take k.toNat).toArray, 0, by heap_get, (y2.take k.toNat).mono (view_grow k1 old)⟩
    · rw [Store.set_other z, g₁.old ha] at e
      cases e
theorem range1 {n : Int} {Q : D → Store → Prop} (q : Q (.rng 0 n) σ) : CallD C (.type "range") [.int n] σ Q X := by
  refine CallD.pure (d := .rng 0 n) (fun s vs g r => ?_) q
  obtain ⟨_, rfl, t, rfl⟩ := r.one
  · intro Q E k
    exact call_range_1 (k _ _ _ (fun b o e => Heap.get?_push_of_some _ e) (.rng (g.fresh_view none_size (Heap.get?_push_size _ rfl))))
theorem range2 {a b : Int} {Q : D → Store → Prop} (q : Q (.rng a b) σ) : CallD C (.type "range") [.int a, .int b] σ Q X := by
  refine CallD.pure (d := .rng a b) (fun s vs g r => ?_) q
  obtain ⟨_, _, rfl, r1, r2⟩ := r.two
  obtain ⟨t, rfl⟩ := r1.inv
  obtain ⟨u, rfl⟩ := r2.inv
  · · intro Q E k
      exact call_range_2 (k _ _ _ (fun b o e => Heap.get?_push_of_some _ e) (.rng (g.fresh_view none_size (Heap.get?_push_size _ rfl))))
theorem str_i {i : Int} {Q : D → Store → Prop} (h : i.natAbs < 2 ^ 63) (q : Q (.str (toString i)) σ) : CallD C (.type "str") [.int i] σ Q X := by
  refine CallD.pure (d := .str (toString i)) (fun s vs g r => ?_) q
  have hl : i.natAbs.log2 < 1920 := by
    by_cases hn : i.natAbs = 0
    · rw [hn]; decide
    · have : i.natAbs.log2 < 63 := (Nat.log2_lt hn).mpr h
      omega
  obtain ⟨_, rfl, t, rfl⟩ := r.one
  exact Pure1.here fun Q E k => P.str_of_int hl (k _ _ (.str _ _))
theorem isi_inst {ks : List Str} {ds : List D} {Q : D → Store → Prop} (q : Q (.bool false) σ) : CallD C (.builtin "isinstance") [.inst 250 ks ds, .glob (.type "str")] σ Q X := by
  refine CallD.pure (d := .bool false) (fun s vs g r => ?_) q
  obtain ⟨_, _, rfl, r1, r2⟩ := r.two
  obtain rfl := r2.inv
  obtain ⟨x, dx, es, n, rfl, hx, hdx, hk, hr⟩ := r1.inv
  · · · exact Pure1.here fun Q E k => kia_one (K := C.K) (kitx_own (D := 250) (ox := instObj 250 dx) (od := dictOf es n) (by rfl) (by rfl) (by rfl) (by rfl) (by rfl) (by rfl)) g.K_in ⟨(vw_some.mp hx).2.2, rfl, rfl, (vw_some.mp hdx).2.2⟩ (by rfl) (by intro e; cases e) fun tk => k _ tk (.bool _)

/-- a key stored in a dict in the making -/
theorem stored_new {name : Str} {v : Value} : ∀ {kvs : List (Str × Value)}, name ∉ kvs.map (·.1) → stored kvs name v = kvs ++ [(name, v)] := fun {kvs} h => by
  unfold stored
  rw [if_neg]
  intro hc
  obtain ⟨kv, h1, h2⟩ := List.any_eq_true.mp hc
  exact h (List.mem_map.mpr ⟨kv, h1, by simpa using h2⟩)
theorem ex_setitem {x name : Str} {k : Nat} {p1 p2 p3 pos : Pos} {e : Expr} {Q : FD → Rho → Store → Prop}
    (hs : swapsWith e (some (.Subscript (.Name x p1) (.Constant (.str name) k p2) p3)) pos.line env = pure false)
    (h : Ev C env ρ e σ (fun d σ₁ => Ev C env ρ (.Name x p1) σ₁ (fun o σ₂ => ∃ a ks ds, o = .mut a ∧ σ₂ a = some (.dict ks ds) ∧ ks.length ≤ 900 ∧ ks.Nodup ∧ name ∉ ks ∧ Q .next ρ (σ₂.set a (.dict (ks ++ [name]) (ds ++ [d])))) X) X) :
    Ex C env ρ (.Assign [.Subscript (.Name x p1) (.Constant (.str name) k p2) p3] e pos) σ Q X := by
  refine ⟨fun s g en => ?_⟩
  refine wpAny_Assign_Subscript (Jd.seqX g en (.refl s) (.start g en) (h.mono (fun d σ₁ q => ?_) fun _ _ x => x)) hs
  intro v s₁ u₁ g₁ e₁ st₁ _ rv
  refine Jd.seqX g₁ e₁ u₁ st₁ (q.mono (fun o σ₂ q => ?_) fun _ _ x => x)
  obtain ⟨a, ks, ds, rfl, h1, hz, hn, hnk, q⟩ := q
  intro ov s₂ u₂ g₂ e₂ st₂ st ro
  obtain rfl := ro.inv
  obtain ⟨_, hd0, es, n, m2, m3, m4⟩ := g₂.at_ a _ h1
  have rv2 := rv.mono st.view
  refine wpAny_Constant_str ?_
  have hD := dictOf_of (prog := C.prog) m2 m3 hn
  refine wpAny_setItem_pairs (s := { s₂ with toks := s₂.toks + 1 }) (knd := PySem.strKind C.prog C.w) (k := name) (kvs := ks.zip (es.map (·.val))) (by show Value.isStrOf name (.str name s₂.toks) = true; simp [Value.isStrOf]) hD (fun h' hD' sb => ?_) ?_
  · rw [stored_new (by rw [zip_fst m3]; exact hnk)] at hD'
    obtain ⟨es', n', k1, k2, k3⟩ := of_dictOf hD'
    rw [List.map_append, zip_fst m3] at k2
    have ha : σ₂ a ≠ none ∨ s₂.heap.get? a = none := .inl (by rw [h1]; simp)
    have kk : ∀ b o, b ≠ a → s₂.heap.get? b = some o → h'.get? b = some o := fun b o q z => sb.extBut b o q z
    have P := Stp.put (o' := .dict (ks ++ [name]) (ds ++ [d])) g₂ ha kk ⟨_, k1⟩
    have g₃ : Hg C (σ₂.set a (.dict (ks ++ [name]) (ds ++ [d]))) h' := g₂.put ha kk ⟨hd0, es', n', k1, k2, by
      rw [k3, List.map_append]
      exact ((m4.zipSnd m3).append (.cons rv2 .nil)).mono (view_put ha kk)⟩
    exact ⟨.next, ρ, _, u₂.trans .mk', g₃, e₂.step P g₂.hσ, st₂.trans (P.weak (fun _ h => nomatch h) e₂.ins), .next, q⟩
  · rw [List.length_zip]
    exact Nat.le_trans (Nat.min_le_left _ _) (Nat.le_trans hz (by decide))

/-- comparisons of a mutable thing -/
theorem ne_ml {a : Addr} {lds : List D} {b : D} (e : σ a = some (.lst lds)) (ha : D.plains lds = true) (hb : b.plain = true) (da : (D.lst lds).py.depth ≤ 64) (db : b.py.depth ≤ 64) : BinD C σ (compareOp .NotEq) (.mut a) b (.bool (!PyData.eqv (D.lst lds).py b.py)) := by
  refine ⟨fun s va vb g ra rb => Pure1.here fun Q E k => ?_⟩
  obtain rfl := ra.inv
  obtain ⟨_, vs, n, y1, y2⟩ := g.at_ a _ e
  obtain ⟨as, r1⟩ := rps_reads vw_get y2 ha
  obtain ⟨bs, r2⟩ := rp_reads vw_get rb hb
  have hu := g.ok.units
  refine ne_dataH (da := (D.lst lds).py) (.list y1 rfl rfl (by rw [show D.pys lds = D.pys lds from rfl] at r1; exact r1)) r2 ?_ ?_ (by omega) (k _ s.toks (.bool _))
  · unfold SeqAt.shaped; rw [plain_lay (.lst lds) (by simpa [D.plain] using ha), Bool.true_and]; exact decide_eq_true da
  · unfold SeqAt.shaped; rw [plain_lay b hb, Bool.true_and]; exact decide_eq_true db
theorem ne_md0 {a : Addr} {ks : List Str} {ds : List D} (e : σ a = some (.dict ks ds)) (hn : ks.Nodup) : BinD C σ (compareOp .NotEq) (.mut a) (.dict [] []) (.bool (!ks.isEmpty)) := by
  refine ⟨fun s va vb g ra rb => Pure1.here fun Q E k => ?_⟩
  obtain rfl := ra.inv
  obtain ⟨_, hz, es, n, y1, y2, y3⟩ := g.at_ a _ e
  obtain ⟨a2, es2, n2, rfl, hz2, he, hk, hr⟩ := rb.inv
  · have hu := g.ok.units
    have d1 := dictOf_of (prog := C.prog) y1 y2 hn
    have d2 := dictOf_of (prog := C.prog) (vw_some.mp he).2.2 hk (List.nodup_nil)
    refine keq_ne (r := true) hz hz2 d1 d2 (by omega) (fun hl => ?_) ?_
    · have hlen := keyed_length y2
      have : ks = [] := by
        cases ks with
        | nil => rfl
        | cons k ks =>
          cases es with
          | nil => simp at hlen
          | cons => simp at hl
      subst this
      exact .nil
    · have : (!((ks.zip (es.map (·.val))).length == (([] : List Str).zip (es2.map (·.val))).length && true)) = !ks.isEmpty := by
        have hlen := keyed_length y2
        cases ks with
        | nil => rfl
        | cons k ks =>
          cases es with
          | nil => simp at hlen
          | cons => simp
      rw [this]
      exact k _ s.toks (.bool _)
end
end
section
theorem exc_getattr {prog : Program} {w : World} {A : Around} {hp : Heap} {gg : Array GenState} {dr : Drawn} {tk : Tok} {os : OsState} {e dx : Addr} {oe : Obj} {es : List DictEntry} {n : Nat} {v : Value} {E : Value → Shared → Prop} {Q : Value → Shared → Prop}
    (X : (frag w.params).In hp) (he : hp.get? e = some oe) (hc : oe.cls = .ref 58) (hd : oe.dict = some dx) (hf : notCls oe = true) (hdx : hp.get? dx = some (dictOf es n)) (hl : getL "message" es = some (some v)) (hv : handedIn v = true)
    (h : Q v ⟨hp, gg, dr, tk + 1, os⟩) : wpAny (model prog w) A (getAttr (.ref e) "message" true) Q E ⟨hp, gg, dr, tk, os⟩ := by
  have I : InstAt hp e oe 58 (some (dictOf es n)) := ⟨he, hc, hf, by rw [hd]; exact hdx⟩
  have L0 := I.type (M := model prog w)
  have L1 := looks_findIn (M := model prog w) X (t := .ref 58) (name := "__getattribute__") (r := some (.builtin "BaseException.__getattribute__")) (by rfl)
  have L2 := looks_find (M := model prog w) X I (name := "message") (findObj_own (attr := none) (by rfl) (by rfl) rfl (by rw [lookIn_dict]; exact hl))
  unfold getAttr getAttrBy
  refine wpAny_bind (wpAny_mkText (wpAny_holding (wpAny_bind (L0.at (wpAny_bind (L1.at ?_))))))
  have hx2 : (onTheHeap (Value.ref 58) && Value.builtin "BaseException.__getattribute__" == Value.builtin "object.__getattribute__") = false := by decide +kernel
  dsimp only
  rw [hx2]
  have LH := looks_hook (M := model prog w) X (mc := .ref 58) (r := none) (by rfl)
  have sub : Looks (model prog w) hp (isInstance (.ref e) (.type "BaseException")) true := I.type.andThen (looks_mroIn X (by rfl))
  unfold getAttrByItsOwn
  rw [if_neg (by decide)]
  refine wpAny_bind (LH.at (wpAny_bind (wpAny_attempt (wpAny_holding ?_))))
  unfold callGetattribute
  have hx0 : (true && onTheHeap (Value.builtin "BaseException.__getattribute__")) = false := by decide
  rw [hx0, if_neg (by decide)]
  refine wpAny_call (codeAny_call_builtin (by decide +kernel) PySem.F.entry_bexc_ga (@check_slot (model prog w) _ _ ⟨hp, gg, dr, tk + 1, os⟩ "BaseException.__getattribute__" "BaseException" "__getattribute__" (.ref e) [.str "message" tk] [] _ (by decide +kernel) (by decide +kernel) sub (PySem.F.args_bexc_ga _ _) ?_))
  refine wpAny_bind (wpAny_pure (wpAny_bind (wpAny_pure (wpAny_bind (L0.at (wpAny_bind (L2.at ?_)))))))
  refine wpAny_pure ?_
  show wpAny _ _ (handedOut v) _ _ _
  rw [handedOut_of hv]
  exact wpAny_pure h

theorem try_at {C : Ctx} {env : Env} {outer : List Env} {L : Addr} {ρ : Rho} {σ : Store} {X : XP} {e : Expr} {n : Str} {rp p1 p2 p3 p4 p5 pos : Pos} {Q : FD → Rho → Store → Prop}
    (hC : C.envs = env :: outer) (hf : env.frame = some L) (hcl : env.cells = []) (hn : env.kindOf n = some .local) (hk : env.kindOf "Refusal" = some .globalImplicit) (hdb : (n == ("__debug__" : Str)) = false)
    (he : eval (.Attribute (.Name n p2) "message" p3) env = (do let o ← eval (.Name n p2) env; standAt p3.atName; let r ← holding [o] (getAttr o "message" true); letTemporaryGo (.Name n p2) o r; pure r))
    {s : Shared} (g : Hg C σ s.heap) (en : He C.w.params C.hid env ρ (vw C.hid σ s.heap) s.heap)
    (h : wpAny (model C.prog C.w) C.A (eval e env) (Post C σ s (fun d σ' => Q (.ret d) ρ σ')) (PostX C [] σ s (fun msg σ₁ => Q (.ret (.str msg)) [] σ₁)) s) :
    wpAny (model C.prog C.w) C.A (exec (.Try [.Return (some e) rp] [.ExceptHandler (some (.Name "Refusal" p1)) (some n) [.Return (some (.Attribute (.Name n p2) "message" p3)) p4] p5] [] [] pos) env) (XPost C env σ s Q) (PostX C (ownOf env) σ s X) s := by
  refine wpAny_Try_except (wpAny_execs_cons (wpAny_Return_some (wpAny_mono h ?_ ?_)))
  · rintro v s₁ ⟨d, σ₁, u, g₁, st, r, q⟩
    exact ⟨.ret d, ρ, σ₁, u, g₁, en.step st g.hσ, st.weak (fun _ h => nomatch h) en.ins, .ret r, q⟩
  · rintro ev s₁ ⟨msg, σ₁, u, R, st, q⟩
    refine note_raised hC hf R fun h₁ M₁ st₁ => flight_raised M₁ fun h₂ M₂ st₂ => ?_
    have e₂ := ((en.step st g.hσ).step st₁ R.hg.hσ).step st₂ M₁.1.hg.hσ
    obtain ⟨⟨g₂, a, oe, dx, vs, tb, es, n₂, t, rfl, hea, hcls, hdict, hd, hv1, hb, hσ, hh, hdx, hmsg, _⟩, _⟩ := id M₂
    refine wpAny_handleBy_cons (codeAny_handlers_test ?_) (by intro q; cases q)
    obtain ⟨mg, hg⟩ := g₂.ok.wd.g
    refine Name_function_global e₂.kind hk (loadGlobal_global (mg := mg) (v := .ref 58) (by rw [e₂.globals]; exact hg.keeps g₂.stays) (mg_of g₂.ok.wd.X hg (by rfl)) ?_) (by decide)
    refine wpAny_excMatches_sub_self (refusal_at g₂.K_in) hea hcls (by decide) ?_
    refine codeAny_handlers_suite_as (flight_raised M₂ fun h₃ M₃ st₃ => ?_)
    have e₃ := e₂.step st₃ g₂.hσ
    obtain ⟨⟨g₃, a₃, oe₃, dx₃, vs₃, tb₃, es₃, n₃, t₃, hae, hea₃, hcls₃, hdict₃, hd₃, hv₃, hb₃, hσ₃, hh₃, hdx₃, hmsg₃, hbx₃, hσx₃, hhx₃, _⟩, _⟩ := M₃
    cases hae
    obtain ⟨m, hm⟩ := e₃.ns
    have hL : env.locals ∈ C.hid := e₃.ins _ (.head _)
    refine wpAny_storeName_local hn hm (fun h₄ hn₄ hb₄ => ?_) (by rw [e₃.kind]; rfl)
    obtain ⟨oL, esL, epL, hoL, hdL, restL⟩ := id hn₄
    have g₄ := g₃.turn hL hb₄.2 hoL (fun vs q => by rw [hdL] at q; cases q)
    have st₄ : Stp (ownOf env) C.hid C.fs σ₁ h₃ σ₁ h₄ := Stp.turn g₃.hσ g₃.ok.hids e₃.ins (.head _) hb₄.2 hoL
    have hea₄ : h₄.get? a = some oe₃ := (hb₄.2 a (fun z => hh₃ (z ▸ hL))).trans hea₃
    have hdx₄ : h₄.get? dx₃ = some (dictOf es₃ n₃) := (hb₄.2 dx₃ (fun z => hhx₃ (z ▸ hL))).trans hdx₃
    refine wpAny_execs_cons (wpAny_Return_some (Attribute_Name_ (wpAny_Name (wpAny_loadName_local e₃.kind hn hn₄ (if_pos rfl) ?_) hdb) he))
    refine exc_getattr (X := g₄.K_in) hea₄ hcls₃ hdict₃ (by unfold notCls; rw [hd₃]) hdx₄ hmsg₃ rfl ?_
    refine wpAny_nameGoes hn (m := _) hn₄ (by rw [e₃.kind]; rfl) fun h₅ m₅ hn₅ hb₅ => ?_
    obtain ⟨oL₅, esL₅, epL₅, hoL₅, hdL₅, restL₅⟩ := id hn₅
    have g₅ := g₄.turn hL hb₅.2 hoL₅ (fun vs q => by rw [hdL₅] at q; cases q)
    have st₅ : Stp (ownOf env) C.hid C.fs σ₁ h₄ σ₁ h₅ := Stp.turn g₄.hσ g₄.ok.hids e₃.ins (.head _) hb₅.2 hoL₅
    refine ⟨.ret (.str msg), [], σ₁, u.trans .mk', g₅, ⟨e₃.kind, e₃.globals, e₃.ins, ⟨_, hn₅⟩, fun y c hy => ?_, fun y z c hy => ?_, fun y d hy => by cases hy⟩, ?_, .ret (.str msg t₃), q⟩
    · rw [hcl] at hy; cases hy
    · rw [hcl] at hy; cases hy
    · exact ((st.trans (st₁.trans (st₂.trans st₃))).weak (fun _ h => nomatch h) en.ins).trans (st₄.trans st₅)
end
section
/-- the lambda's frame -/
noncomputable abbrev lamEnv (env : Env) (scope : Scope) (L f c : Addr) (clos : List (Str × Addr)) : Env := envX (env.qual ++ "<lambda>") scope L f (.ref c) clos
noncomputable abbrev keptEnv (L : Addr) : Env := envOf "_law_kept" S358 L 358 (.ref 357)
noncomputable abbrev keptCtx (C : Ctx) (env : Env) (scope : Scope) (L1 L2 f c : Addr) (clos : List (Str × Addr)) : Ctx := (C.enter (keptEnv L1) [L1] (C.fuel - 1)).enter (lamEnv env scope L2 f c clos) [L2] (C.fuel - 1 - 1)

theorem ev_kept {C : Ctx} {env : Env} {ρ ρ2 : Rho} {σ : Store} {X : XP} {params : Arguments} {body : Expr} {scope : Scope} {lp p pos : Pos} {c P : Addr} {ps : Array Value} {clos : List (Str × Addr)} {Q : D → Store → Prop}
    (hk : env.kindOf "_law_kept" = some .globalImplicit) (hcode : env.code = .ref c) (hhd : codeHdIn C.K c P = true) (hσ : σ P = some (.tab ps)) (ht : TriplesOk ps.toList) (hnf : codeAmong lp ps.toList = none)
    (hclos : closureFor scope env = pure clos) (hdef : defaultsOf params env = ([], [])) (hpar : ∀ qual pm cd ct, bindArgs (kla_fn "<lambda>" qual params body scope clos pm cd ct) ⟨[], []⟩ = pure []) (hfu : 2 ≤ C.fuel)
    (hcell : ∀ x ∈ scope.names, x.2 ≠ .cell) (hkd : scope.kind = .function) (hco : scope.isCoroutine = false) (hgen : scope.isGenerator = false)
    (hcl : ∀ y c, clos.lookup y = some c → env.cells.lookup y = some c) (hcl2 : ∀ q ∈ clos, q.2 ∈ env.cells.map (·.2))
    (hcap : ∀ q ∈ ρ2, ρ.lookup q.1 = some q.2 ∧ (env.kindOf q.1 = some .cell ∨ env.kindOf q.1 = some .free) ∧ scope.names.lookup q.1 = some .free ∧ (q.1 == ("__classdict__" : Str)) = false ∧ clos.lookup q.1 = env.cells.lookup q.1)
    (he1 : starEach [.Lambda params body scope lp] env = (false, eval (.Lambda params body scope lp) env) :: starEach [] env)
    (h : ∀ L1 L2 f c', Ev (keptCtx C env scope L1 L2 f c' clos) (lamEnv env scope L2 f c' clos) ρ2 body (σ.set P (.tab (ps ++ #[rawInt lp.line, rawInt lp.col, .ref c']))) Q (fun msg σ' => Q (.str msg) σ')) :
    Ev C env ρ (.Call (.Name "_law_kept" p) [.Lambda params body scope lp] [] pos) σ Q X := by
  refine ⟨fun s g en => ?_⟩
  obtain ⟨mg, bm, ob, hmg, b1, b2, b3, b4, b5, b6⟩ := g.ok.wd.bm
  have hgs := hmg.keeps g.stays
  obtain ⟨hPh, hP⟩ := g.at_ P _ hσ
  have hP : s.heap.get? P = some (tabObj ps) := hP
  have hgP : mainGlobals ≠ P := fun q => by
    obtain ⟨o, es, ep, e, hd, _⟩ := hgs
    rw [q, hP] at e; cases e; cases hd
  have hbP : bm ≠ P := fun q => by
    have e := g.stays _ _ b3
    rw [q, hP] at e; cases e; cases b4
  have hbG : bm ≠ mainGlobals := fun q => by
    obtain ⟨o, es, ep, e, hd, _⟩ := hgs
    have e2 := g.stays _ _ b3
    rw [q, e] at e2; cases e2; rw [hd] at b6; cases b6
  refine wpAny_Call_NameR (Name_function_global en.kind hk (loadGlobal_global (mg := mg) (v := .ref 358) (by rw [en.globals]; exact hgs) (mg_of g.ok.wd.X hmg (by rfl)) ?_) (by decide))
  refine callWith_K g.K_in (by rfl) ?_ he1 (by rfl)
  refine spliced_more (kla_eval hdef (kla_makeFunction (mg := mg) hclos en.globals hgs hcode (codeHd_of_K g.K_in hhd) hP ht hnf hgP ⟨bm, ob, b1, b2, hbG, hbP, g.stays _ _ b3, b4, b5, b6⟩ fun c' ctv h' tk hx hge hlt hrec htb => spliced_none ?_)) he1
  generalize hfo : kla_obj "<lambda>" (env.qual ++ "<lambda>") params body scope clos ((mg "__name__").getD .none) c' ctv = fo
  have hFf : (h'.push fo).get? h'.objs.size = some fo := Heap.get?_push_size _ (by rw [← hfo]; rfl)
  have hRec : (h'.push fo).CodeRec (.ref c') (env.qual ++ "<lambda>") := hrec.push _
  have ha : σ P ≠ none ∨ s.heap.get? P = none := .inl (by rw [hσ]; simp)
  have k1 : ∀ b o, b ≠ P → s.heap.get? b = some o → (h'.push fo).get? b = some o := fun b o z q => Heap.get?_push_of_some _ (hx b o z q)
  have hP1 : (h'.push fo).get? P = some (tabObj (ps ++ #[rawInt lp.line, rawInt lp.col, .ref c'])) := Heap.get?_push_of_some _ htb
  have g1 : Hg C (σ.set P (.tab (ps ++ #[rawInt lp.line, rawInt lp.col, .ref c']))) (h'.push fo) := g.put ha k1 hP1
  have st1 : Stp [] C.hid C.fs σ s.heap (σ.set P (.tab (ps ++ #[rawInt lp.line, rawInt lp.col, .ref c']))) (h'.push fo) := Stp.put g ha k1 ⟨_, hP1⟩
  have e1 := en.step st1 g.hσ
  have hev := fun L1 L2 => h L1 L2 h'.objs.size c'
  generalize σ.set P (.tab (ps ++ #[rawInt lp.line, rawInt lp.col, .ref c'])) = σ1 at g1 st1 e1 hev
  generalize h'.objs.size = f at hFf hev
  generalize h'.push fo = h1 at *
  obtain ⟨hp0, gg, dr, tk0, os⟩ := s
  dsimp only at *
  refine ⟨g1.K_in, ?_⟩
  -- the first frame
  have hroom : C.A.depth < recursionLimit := Nat.lt_of_le_of_lt (Nat.le_add_right _ _) g.ok.depth
  refine wpAny_call (codeAny_call_def (fd := _) (body := _) (binds := [(Str.ofString "ask", .ref f)]) hroom (g1.K_in 358 _ rfl) rfl (g1.ok.wd.nolimit.keeps g1.stays) (codeRec_of g1.K_in (cd := .ref 357) (q := Str.ofString "_law_kept") rfl) rfl (BindsTo.of_eq rfl) (by decide) (locs rfl) (fun h₂ hns₂ hk₂ => ?_) rfl rfl rfl)
  have hnew2 : ∀ a ∈ [h1.objs.size], h1.get? a = none := fun a m => by rw [List.mem_singleton.mp m]; exact none_size
  have hthere2 : ∀ a ∈ [h1.objs.size], ∃ o, h₂.get? a = some o := fun a m => by
    rw [List.mem_singleton.mp m]
    obtain ⟨o, _, _, q, _⟩ := hns₂
    exact ⟨o, q⟩
  have g2 : Hg (C.enter (keptEnv h1.objs.size) [h1.objs.size] (C.fuel - 1)) σ1 h₂ := g1.enter hk₂ hnew2 hthere2 rfl (.head _) hns₂ rfl (by omega)
  have e2 : He C.w.params ([h1.objs.size] ++ C.hid) (keptEnv h1.objs.size) [(Str.ofString "ask", .glob (.ref f))] (vw ([h1.objs.size] ++ C.hid) σ1 h₂) h₂ := by
    refine ⟨rfl, rfl, fun a m => List.mem_append.mpr (.inl m), ⟨_, hns₂⟩, fun x c e => (by cases e), fun x y c e => (by cases e), fun x d e => ?_⟩
    rw [List.lookup_cons] at e
    split at e
    · rename_i z
      cases e
      rw [beq_iff_eq] at z
      subst z
      exact ⟨.ref f, .glob _, .inl ⟨rfl, _, hns₂, rfl⟩⟩
    · cases e
  have eL : He C.w.params ([h1.objs.size] ++ C.hid) env ρ (vw ([h1.objs.size] ++ C.hid) σ1 h₂) h₂ := e1.hide (new := [h1.objs.size]) hk₂ hnew2
  have hFf2 := hk₂ _ _ hFf
  have hRec2 := hRec.keeps hk₂
  refine wpAny_execs_cons (wpAny_mono (try_at (C := C.enter (keptEnv h1.objs.size) [h1.objs.size] (C.fuel - 1)) (X := NX) (Q := fun fd _ σ' => match fd with | .ret d => Q d σ' | _ => False) (outer := C.envs) (L := h1.objs.size) rfl rfl rfl rfl rfl (by decide) (by with_unfolding_all rfl) g2 e2 ?_) ?_ (fun e s' hx' => (nx_false hx').elim))
  · -- the call of the lambda
    refine wpAny_Call_NameR (wpAny_Name (wpAny_loadName_local rfl rfl hns₂ rfl ?_) (by decide))
    refine callWith_function_kw (o := fo) (fd := _) (evalArgs_all rfl (spliced_none ⟨⟨hFf2, by rw [← hfo]⟩, ?_⟩))
    have hroom2 : (C.A.deeper (keptEnv h1.objs.size)).depth < recursionLimit := by
      have := g2.ok.depth
      exact Nat.lt_of_le_of_lt (Nat.le_add_right _ _) this
    refine wpAny_call (kla_callFunE hroom2 hFf2 (by rw [← hfo]) hco hgen rfl hRec2 ?_)
    refine wpAny_of_eq (a := []) (hpar _ _ _ _) (wpAny_newFunctionEnv hcell (fun _ h => nomatch h) (fun h₃ hns₃ hsb₃ => ⟨(g2.ok.wd.nolimit.keeps g2.stays).fresh _ hsb₃, kla_codeExpr ?_⟩) hkd)
    have hk₃ : ∀ b o, h₂.get? b = some o → h₃.get? b = some o := fun b o q => hsb₃.extBut b o (size_old q) (Heap.get?_push_of_some _ q)
    have hnew3 : ∀ a ∈ [h₂.objs.size], h₂.get? a = none := fun a m => by rw [List.mem_singleton.mp m]; exact none_size
    have hthere3 : ∀ a ∈ [h₂.objs.size], ∃ o, h₃.get? a = some o := fun a m => by
      rw [List.mem_singleton.mp m]
      obtain ⟨o, _, _, q, _⟩ := hns₃
      exact ⟨o, q⟩
    have g3 : Hg (keptCtx C env scope h1.objs.size h₂.objs.size f c' clos) σ1 h₃ := g2.enter (env := lamEnv env scope h₂.objs.size f c' clos) hk₃ hnew3 hthere3 rfl (.head _) hns₃ hkd (by show C.fuel - 1 = _; omega)
    have eL3 := eL.hide (new := [h₂.objs.size]) hk₃ hnew3
    have e3 : He C.w.params ([h₂.objs.size] ++ ([h1.objs.size] ++ C.hid)) (lamEnv env scope h₂.objs.size f c' clos) ρ2 (vw ([h₂.objs.size] ++ ([h1.objs.size] ++ C.hid)) σ1 h₃) h₃ := by
      refine ⟨hkd, rfl, fun a m => ?_, ⟨_, hns₃⟩, fun x c e => eL3.cell x c (hcl x c e), fun x y c e e' => eL3.inj x y c (hcl x c e) (hcl y c e'), fun x d e => ?_⟩
      · rcases List.mem_cons.mp m with rfl | m
        · exact .head _
        · obtain ⟨q, hq, rfl⟩ := List.mem_map.mp m
          exact eL3.ins q.2 (.tail _ (hcl2 q hq))
      · obtain ⟨c1, c2, c3, c4, c5⟩ := hcap (x, d) (lookup_pair e)
        obtain ⟨v, rv, n⟩ := eL3.rd x d c1
        refine ⟨v, rv, .inr ⟨.inr ⟨c3, c4⟩, ?_⟩⟩
        rcases n with ⟨n1, _⟩ | ⟨_, c, n2, n3⟩
        · rcases c2 with c2 | c2 <;> (dsimp only at c2; rw [c2] at n1; cases n1)
        · exact ⟨c, c5.trans n2, n3⟩
    refine wpAny_mono ((hev h1.objs.size h₂.objs.size).out ⟨h₃, _, _, _, _⟩ g3 e3) ?_ ?_
    · rintro v s' ⟨d, σ', u, g', st', r, q⟩
      exact ⟨d, σ', Upto.trans (s₁ := ⟨h₃, _, _, _, _⟩) (.mk' (tk := _)) u, Hg.leave g' g2.ok, Stp.leave st' hk₃ hnew3 (fun _ h => nomatch h) (fun _ h => nomatch h) (enter_fs (C := C.enter (keptEnv h1.objs.size) [h1.objs.size] (C.fuel - 1)) rfl (.head _)) g2.ok.hids, r.mono view_leave, q⟩
    · rintro e s' ⟨msg, σ', u, R, st', q⟩
      refine leave_raised (C := keptCtx C env scope h1.objs.size h₂.objs.size f c' clos) (C₀ := C.enter (keptEnv h1.objs.size) [h1.objs.size] (C.fuel - 1)) rfl rfl ⟨rfl, rfl, rfl, fun a m => List.mem_append.mpr (.inr m)⟩ g2.ok rfl R fun h₄ R' st₄ => ?_
      exact ⟨msg, σ', (Upto.trans (s₁ := ⟨h₃, _, _, _, _⟩) (.mk' (tk := _)) u).trans .mk', R', Stp.leave (st'.trans st₄) hk₃ hnew3 (fun _ h => nomatch h) (fun _ h => nomatch h) (enter_fs (C := C.enter (keptEnv h1.objs.size) [h1.objs.size] (C.fuel - 1)) rfl (.head _)) g2.ok.hids, q⟩
  · rintro fl s' ⟨fd, ρ', σ', u, g', e', st', rf, q⟩
    cases rf with
    | ret r =>
      refine ⟨_, σ', Upto.trans (s₁ := ⟨h₂, _, _, _, _⟩) (.mk' (tk := _)) u, Hg.leave g' g1.ok, st1.trans (Stp.leave st' hk₂ hnew2 (fun a m => .inl m) (fun _ h => nomatch h) (enter_fs rfl (.head _)) g1.ok.hids), r.mono view_leave, q⟩
    | next => exact q.elim
    | brk => exact q.elim
    | cont => exact q.elim
end
section
def DictAtH (P : Params) (V : View) (h : Heap) (A : Addr) (ks : List Str) (ds : List D) : Prop := ∃ es n, h.get? A = some (dictOf es n) ∧ Keyed P es ks ∧ RpAll P V (es.map (·.val)) ds
theorem DictAtH.at' {P : Params} {V V' : View} {h h' : Heap} {A : Addr} {ks : List Str} {ds : List D} (x : DictAtH P V h A ks ds) (k : ∀ o, h.get? A = some o → h'.get? A = some o) (v : ∀ a o, V a = some o → ¬ Odd o → V' a = some o) : DictAtH P V' h' A ks ds := by
  obtain ⟨es, n, h1, h2, h3⟩ := x
  exact ⟨es, n, k _ h1, h2, h3.mono v⟩
theorem DictAtH.odd {P : Params} {V : View} {h : Heap} {A : Addr} {ks : List Str} {ds : List D} (x : DictAtH P V h A ks ds) {o : Obj} (q : h.get? A = some o) : ¬ Odd o := by
  obtain ⟨es, n, h1, h2, h3⟩ := x
  rw [h1] at q; cases q
  exact not_odd fun vs z => by cases z
theorem nodup_snoc {α : Type} {l : List α} {a : α} (h : l.Nodup) (k : a ∉ l) : (l ++ [a]).Nodup := by
  rw [List.nodup_append]
  exact ⟨h, List.nodup_cons.mpr ⟨List.not_mem_nil, List.nodup_nil⟩, fun x hx y hy z => k (by rw [List.mem_singleton] at hy; rw [← hy, ← z]; exact hx)⟩
section
variable {C : Ctx} {env : Env} {ρ : Rho} {σ : Store} {X : XP}
theorem walk_dict {ks : List Str} {ds : List D} (hn : ks.Nodup) : WalkD C σ (.dict ks ds) (ks.map .str) := by
  refine ⟨fun s v g r Q E k => ?_⟩
  obtain ⟨a, es, n, rfl, hz, hl, hk, hr⟩ := r.inv
  · have hl' := (vw_some.mp hl).2.2
    have hD := dictOf_of (prog := C.prog) hl' hk hn
    have hDA : s.heap.DictAt (PySem.strKind C.prog C.w) a (ks.zip (es.map (·.val))) n := by
      refine ⟨_, es.toArray, hl', ⟨rfl, rfl, rfl⟩, rfl, fun e he => keyed_keys hk e (by simpa using he), by simpa using keyed_pairs hk, ?_⟩
      rw [zip_fst hk]; exact hn
    have hne : a ≠ s.heap.objs.size := Nat.ne_of_lt (Heap.lt_size hl')
    have hlen : (ks.map D.str).length = (ks.zip (es.map (·.val))).length := by
      have := keyed_length hk
      rw [List.length_map, List.length_zip, List.length_map]; omega
    refine wpAny_pyIter_dict (knd := PySem.strKind C.prog C.w) hz hDA ?_
    refine k s.heap.objs.size _ _ _ _ (fun b o q => Heap.get?_push_of_some _ q) none_size (fun i h st => ?_) (hlen ▸ Walks.dictKeys (knd := PySem.strKind C.prog C.w) g.ok.handled _ a hne _ n) ⟨⟨_, Heap.get?_push_size _ rfl, rfl, by rw [hlen]; rfl⟩, hDA.at' fun o q => Heap.get?_push_of_some _ q⟩ (fun b hb => ?_) (fun i v hv hi => ?_)
    · obtain ⟨⟨o, ho, hc, hd⟩, _⟩ := st
      exact ⟨o, ho, fun ⟨_, q⟩ => q.elim (fun q => by rw [hc] at q; cases q) (fun q => by rw [hc] at q; simp at q)⟩
    · rcases List.mem_cons.mp hb with rfl | hb
      · exact .inl rfl
      · rw [List.mem_singleton.mp hb]
        exact .inr ⟨_, hl, not_odd fun vs q => by cases q⟩
    · obtain ⟨kk, x, h1, h2⟩ := hv
      have h3 : ks[i]? = some kk := by
        have := congrArg (fun l => l[i]?) (zip_fst hk)
        simp only [List.getElem?_map, h1] at this
        exact this.symm
      obtain ⟨t, rfl⟩ := Value.isStrOf_shape h2
      refine ⟨.str kk, ?_, .str _ _⟩
      rw [List.getElem?_map, h3]; rfl
inductive DInv (C C' : Ctx) (cenv : Env) (ρ' : Rho) (σ₁ : Store) (h₁ : Heap) (s : Shared) (J : Nat → List Str → List D → Store → Prop) (St : Nat → Heap → Prop) (A : Addr) (N : Nat) (n : Nat) (s' : Shared) : Prop
  | mk (i : Nat) (ks : List Str) (acc : List D) (σ' : Store) : J i ks acc σ' → ks.length ≤ i → ks.Nodup → i ≤ N → n = N + 1 - i → Upto s s' → Hg C' σ' s'.heap → He C.w.params C'.hid cenv ρ' (vw C'.hid σ' s'.heap) s'.heap →
    Stp [] C'.hid C.fs σ₁ h₁ σ' s'.heap → St i s'.heap → DictAtH C.w.params (vw C'.hid σ' s'.heap) s'.heap A ks acc → DInv C C' cenv ρ' σ₁ h₁ s J St A N n s'
theorem dcomp_core {x : Str} {px pos pos' : Pos} {kx vx iter : Expr} {scope : Scope} {cl : List (Str × Addr)} {use : Option (Value → Sem Unit)} {Q' : Value → Shared → Prop} {e0 : Env} {outer : List Env} {L0 : Addr} {s : Shared} {Fin : List Str → List D → Store → Prop}
    (hs : ∀ x, foldedSetIterable iter env x = pure x) (g : Hg C σ s.heap) (en : He C.w.params C.hid env ρ (vw C.hid σ s.heap) s.heap)
    (hclos : closureFor scope env = pure cl) (hcell : ∀ y ∈ scope.names, y.2 ≠ .cell) (hkind : scope.kind = .function) (hnames : ∀ y ∈ scope.names, y.2 = .local → scope.names.lookup y.1 = some .local) (hx : scope.names.lookup x = some .local)
    (hcl : ∀ y c, cl.lookup y = some c → env.cells.lookup y = some c) (hcl2 : ∀ p ∈ cl, p.2 ∈ env.cells.map (·.2)) (hC : C.envs = e0 :: outer) (hfr : env.frame = e0.frame) (hf0 : e0.frame = some L0)
    (h : Ev C env ρ iter σ (fun it σ₁ => ∃ ds, ds.length ≤ 1000 ∧ WalkD C σ₁ it ds ∧ ∃ ρ', Capt env scope cl ρ ρ' ∧ ∃ J : Nat → List Str → List D → Store → Prop, J 0 [] [] σ₁ ∧
      (∀ i d ks acc new L σ, ds[i]? = some d → J i ks acc σ → Ev (C.hide new) (compEnvC scope cl L env) ((x, d) :: ρ') kx σ (fun z σ' => ∃ k, z = .str k ∧ k ∉ ks ∧ Ev (C.hide new) (compEnvC scope cl L env) ((x, d) :: ρ') vx σ' (fun y σ'' => J (i + 1) (ks ++ [k]) (acc ++ [y]) σ'') X) X) ∧
      ∀ ks acc σ, J ds.length ks acc σ → Fin ks acc σ) X)
    (fin : ∀ A L s' σ' ks acc, Upto s s' → Hg (C.hide [L]) σ' s'.heap → He C.w.params (C.hide [L]).hid env ρ (vw (C.hide [L]).hid σ' s'.heap) s'.heap → Stp [] (C.hide [L]).hid C.fs σ s.heap σ' s'.heap → Rp C.w.params (vw (C.hide [L]).hid σ' s'.heap) (.ref A) (.dict ks acc) → Fin ks acc σ' →
      s.heap.get? L = none → (∃ m, s'.heap.Ns L m) → compPost (model C.prog C.w) C.A (PostX C [] σ s X) use Q' (.ref A) L (.ok .next) s') :
    wpAny (model C.prog C.w) C.A (comprehension (.DictComp kx vx [⟨.Name x px, iter, [], 0⟩] scope pos) scope env pos' newDict false (eval iter env) use) Q' (PostX C [] σ s X) s := by
  refine wpAny_comprehension_free (cl := cl) (g := ⟨.Name x px, iter, [], 0⟩) (gs := []) rfl hs hclos hkind hnames (Jd.seq g en (.refl s) (.refl g.hσ g.ok.hids) (h.mono (fun it σ₁ q => ?_) fun _ _ x => x))
  obtain ⟨ds, hlen, W, ρ', hcap, J, h0, turn, last⟩ := q
  intro v s₁ u₁ g₁ e₁ st₁ _ r₁
  refine W.out s₁ v g₁ r₁ _ _ fun I h₁ fp Pv St hk hI hIo Wk st0 hfp hP => ?_
  unfold newDict
  refine wpAny_newObj_type (wpAny_newFunctionEnv hcell (by intro y hy; simp at hy) (fun h₃ hns₃ hsb₃ => ?_) hkind)
  obtain ⟨p, g₂, e₂, start, st3, hAget⟩ := comp_pre hkind hcl hcl2 hcap g₁ e₁ hk hI hIo Wk st0 hfp rfl hns₃ hsb₃
  have hAm : (h₁.objs.size == sysModules) = false := beq_eq_false_iff_ne.mpr (Nat.ne_of_gt (modules_low (g.ok.wd.nolimit.keeps (fun a o q => hk a o (g₁.stays a o q)))))
  dsimp only at p g₂ e₂ start st3 hAget hAm ⊢
  generalize h₁.push { cls := .type "dict", dict := none, data := .dict #[] } = H2 at *
  generalize H2.objs.size = L at *
  generalize h₁.objs.size = A at *
  have hkx : (compEnvC scope cl L env).kindOf x = some .local := relabel_local hx
  have hcf : (compEnvC scope cl L env).frame = e0.frame := hfr
  have turn := fun i d ks acc σ a b => turn i d ks acc [I, A, L] L σ a b
  have loop : codeAny (model C.prog C.w) C.A (.compLoop (.DictComp kx vx [⟨.Name x px, iter, [], 0⟩] scope pos) 0 (.ref I) (.ref A) (compEnvC scope cl L env)) (compPost (model C.prog C.w) C.A (PostX C [] σ s X) use Q' (.ref A) L) ⟨h₃, s₁.gens, s₁.drawn, s₁.toks + ([] : List (Str × Value)).length, s₁.os⟩ := by
    refine codeAny_compLoop_testsD (DInv C (C.hide [I, A, L]) (compEnvC scope cl L env) ρ' σ₁ s₁.heap s J St A ds.length) ?_ (ds.length + 1) ⟨0, [], [], σ₁, h0, Nat.le_refl _, List.nodup_nil, Nat.zero_le _, rfl, u₁.trans .mk', g₂, e₂, start, st3, ⟨[], 0, hAget, trivial, .nil⟩⟩
    rintro n s₂ ⟨i, ks, acc, σ₂, hJ, hai, hnd, hi, rfl, u₂, g₃, e₃, st₃, sti, hl⟩
    by_cases hlt : i < ds.length
    · refine Wk.item i s₂ _ _ hlt sti fun v₃ h₄ tk₄ hPv st₃' hk₄ => ?_
      refine p.turn (s₂ := s₂) hkx hlt hPv hP hk₄ st₃' g₃ e₃ st₃ fun d h₅ tk₅ m₅ hd g₅ e₅ st₅ sti₅ hn₅ kA kV => ?_
      have u₅ : Upto s ⟨h₅, s₂.gens, s₂.drawn, tk₅, s₂.os⟩ := u₂.trans .mk'
      have hl₅ := hl.at' kA kV
      refine wpAny_tests_nil ?_
      rw [if_pos rfl]
      refine wpAny_mono ((turn i d ks acc σ₂ hd hJ).out ⟨h₅, _, _, _, _⟩ g₅ e₅) ?_ (fun e s' hx' => p.bad (s₂ := ⟨h₅, _, _, _, _⟩) hC hcf hf0 st₁ u₅ g₅ st₅ hn₅ hx')
      rintro kv s₆ ⟨dk, σ₆, u₆, g₆, st₆, rk, k, rfl, hkn, q⟩
      have e₆ := e₅.step st₆ g₅.hσ
      have sti₆ := p.frm g₅ st₅ st₆ sti₅
      have hl₆ := hl₅.at' (fun o q => p.own mA g₅ st₆ (hl₅.odd q) q) st₆.view
      have hn₆ := p.ownNs g₅ st₆ hn₅
      have u₆' := u₅.trans u₆
      have st₅₆ := st₅.trans st₆
      refine wpAny_mono (q.out s₆ g₆ e₆) ?_ (fun e s' hx' => p.bad hC hcf hf0 st₁ u₆' g₆ st₅₆ hn₆ hx')
      rintro y s₇ ⟨dy, σ₇, u₇, g₇, st₇, ry, q⟩
      obtain ⟨es, en, hA, hky, hra⟩ := hl₆.at' (fun o q => p.own mA g₆ st₇ (hl₆.odd q) q) st₇.view
      obtain ⟨t, rfl⟩ := rk.inv
      have hD := dictOf_of (prog := C.prog) hA hky hnd
      refine wpAny_dictSet_pairs (knd := PySem.strKind C.prog C.w) (k := k) (kvs := ks.zip (es.map (·.val))) (by show Value.isStrOf k (.str k t) = true; simp [Value.isStrOf]) hD (fun h₈ hD' hs₈ => ?_) ?_
      · rw [stored_new (by rw [zip_fst hky]; exact hkn)] at hD'
        obtain ⟨es', n', k1, k2, k3⟩ := of_dictOf hD'
        rw [List.map_append, zip_fst hky] at k2
        have hk₈ : ∀ b o, b ≠ A → s₇.heap.get? b = some o → h₈.get? b = some o := fun b o hb q => hs₈.extBut b o hb q
        refine ⟨_, down hlt, i + 1, ks ++ [k], acc ++ [dy], σ₇, q, by rw [List.length_append]; exact Nat.succ_le_succ hai, nodup_snoc hnd hkn, hlt, rfl, (u₆'.trans u₇).trans (.mk' (tk := s₇.toks + 1)), g₇.turnK (toH mA) hk₈ k1 (.inr (p.notF mA)), ((e₆.step st₇ g₆.hσ).turnK (toH mA) (p.notOwn mA p.al) hk₈).weak (capt_wk hcap hx d), (st₅₆.trans st₇).turnK (p.n A mA) hk₈, p.frameK mA p.ia (p.frm g₆ st₅₆ st₇ sti₆) hk₈, es', n', k1, k2, ?_⟩
        rw [k3, List.map_append]
        exact ((hra.zipSnd hky).append (.cons ry .nil)).mono (view_turnK (toH mA) hk₈)
      · rw [List.length_zip]
        exact Nat.le_trans (Nat.min_le_left _ _) (Nat.le_trans (show ks.length ≤ 1000 by omega) (by decide))
    · have hie : i = ds.length := Nat.le_antisymm hi (Nat.le_of_not_lt hlt)
      subst hie
      refine Wk.done s₂ _ _ sti fun h₄ tk₄ hk₄ => ?_
      have hk₄' : ∀ b o, b ≠ I → s₂.heap.get? b = some o → h₄.get? b = some o := fun b o hb => hk₄ b o fun m => hb (List.mem_singleton.mp m)
      obtain ⟨d1, d2, d3, d4, d5, d6, d7⟩ := p.done hk₄' st₁ e₁ g₃ e₃ st₃
      obtain ⟨es, n, hn, hky, hr⟩ := hl
      refine fin A L ⟨h₄, _, _, _, _⟩ σ₂ ks acc (u₂.trans .mk') d1 d2 d3 (.dict (n := n) hAm (vw_some.mpr ⟨d4, d5, hk₄' A _ (Ne.symm p.ia) hn⟩) hky (hr.mono (view_unhide (new := [I, A]) fun b o hb => hk₄' b o fun z => hb (z ▸ .head _)))) (last ks acc σ₂ hJ) d6 d7
  exact codeAny_compStart_dict loop (Wk.self 0 ⟨h₃, _, _, _, _⟩ _ _ st3 loop)

theorem ev_dcomp {x : Str} {px pos : Pos} {kx vx iter : Expr} {scope : Scope} {cl : List (Str × Addr)} {Q : D → Store → Prop} {e0 : Env} {outer : List Env} {L0 : Addr}
    (hs : ∀ x, foldedSetIterable iter env x = pure x) (hclos : closureFor scope env = pure cl) (hcell : ∀ y ∈ scope.names, y.2 ≠ .cell) (hkind : scope.kind = .function) (hnames : ∀ y ∈ scope.names, y.2 = .local → scope.names.lookup y.1 = some .local) (hx : scope.names.lookup x = some .local)
    (hcl : ∀ y c, cl.lookup y = some c → env.cells.lookup y = some c) (hcl2 : ∀ p ∈ cl, p.2 ∈ env.cells.map (·.2)) (hC : C.envs = e0 :: outer) (hfr : env.frame = e0.frame) (hf0 : e0.frame = some L0)
    (h : Ev C env ρ iter σ (fun it σ₁ => ∃ ds, ds.length ≤ 1000 ∧ WalkD C σ₁ it ds ∧ ∃ ρ', Capt env scope cl ρ ρ' ∧ ∃ J : Nat → List Str → List D → Store → Prop, J 0 [] [] σ₁ ∧
      (∀ i d ks acc new L σ, ds[i]? = some d → J i ks acc σ → Ev (C.hide new) (compEnvC scope cl L env) ((x, d) :: ρ') kx σ (fun z σ' => ∃ k, z = .str k ∧ k ∉ ks ∧ Ev (C.hide new) (compEnvC scope cl L env) ((x, d) :: ρ') vx σ' (fun y σ'' => J (i + 1) (ks ++ [k]) (acc ++ [y]) σ'') X) X) ∧
      ∀ ks acc σ, J ds.length ks acc σ → Q (.dict ks acc) σ) X) : Ev C env ρ (.DictComp kx vx [⟨.Name x px, iter, [], 0⟩] scope pos) σ Q X := by
  refine ⟨fun s g en => ?_⟩
  rw [arm_eval_DictComp]
  show wpAny _ _ (comprehension (.DictComp kx vx [⟨.Name x px, iter, [], 0⟩] scope pos) scope env _ newDict false (eval iter env) none) _ _ s
  refine dcomp_core (Fin := fun ks acc σ => Q (.dict ks acc) σ) hs g en hclos hcell hkind hnames hx hcl hcl2 hC hfr hf0 ?_ ?_
  · exact h
  intro A L s' σ' ks acc u g' e' st r q hL hm
  obtain ⟨m, hm⟩ := hm
  refine (show ∃ m, s'.heap.Ns L m ∧ ∀ h', Heap.SameBut L s'.heap h' → _ from ⟨m, hm, fun h' hb => ?_⟩)
  have kk : ∀ b o, b ∉ [L] → s'.heap.get? b = some o → h'.get? b = some o := fun b o hb' => hb.extBut b o fun z => hb' (z ▸ .head _)
  have nn : ∀ a ∈ [L], a ∉ C.hid := fun a m => by rw [List.mem_singleton.mp m]; exact (g.fresh_ hL).2.2
  refine ⟨_, σ', u.trans (.mk' (tk := s'.toks)), g'.unhideK g.ok nn kk, ?_, r.mono (view_unhide kk), q⟩
  exact (Stp.leave (own' := []) (new := [L]) st (fun _ _ q => q) (fun a m => by rw [List.mem_singleton.mp m]; exact hL) (fun _ h => nomatch h) (fun _ h => nomatch h) (fun a m => .inr m) g.ok.hids).turnK hL fun b o hb' q => hb.extBut b o hb' q

end
end
section
/-- two values hold for equal -/
def EqG (prog : Program) (w : World) (A : Around) (s : Shared) (y x : Value) : Prop := ∀ (E : Value → Shared → Prop) (Q : Bool → Shared → Prop), Q true s → wpAny (model prog w) A (eqBool y x) Q E s
/-- two rows of one length, equal place by place -/
def EqGs (prog : Program) (w : World) (A : Around) (s : Shared) : List Value → List Value → Prop
  | [], [] => True
  | y :: ys, x :: xs => EqG prog w A s y x ∧ EqGs prog w A s ys xs
  | _, _ => False
theorem EqGs.size {prog : Program} {w : World} {A : Around} {s : Shared} : ∀ {ys xs : List Value}, EqGs prog w A s ys xs → ys.length = xs.length
  | [], [], _ => rfl
  | _ :: _, _ :: _, h => by simp [EqGs.size h.2]
section
variable {prog : Program} {w : World} {A : Around} {s : Shared}
theorem tup_eq_all {l b : Addr} {items items2 : Array Value} {n n2 : Nat} {dd dd2 : Option Addr} {sl sl2 : Array (Option Value)} {P : Value → Shared → Prop} {E : Value → Shared → Prop}
    (hl : s.heap.get? l = some { cls := .type "tuple", dict := dd, data := .seq items n, slots := sl }) (hb : s.heap.get? b = some { cls := .type "tuple", dict := dd2, data := .seq items2 n2, slots := sl2 })
    (he : EqGs prog w A s items.toList items2.toList) (h : P (.bool true) s) : wpAny (model prog w) A (Builtin.«tuple.__eq__» ⟨[.ref l, .ref b], []⟩) (fun fin s' => ∃ v, fin = .done (.ret v) ∧ P v s') E s := by
  have f2 := AutoSeq1.sub_tuple_tuple
  have hsz : items.size = items2.size := by simpa using he.size
  wp_walk using AutoSeq1.wpAny_loadPart' hl, AutoSeq1.wpAny_loadPart' hb, wpAny_forIn_list _ (fun rest b s' => b.1 = none ∧ s' = s ∧ ∃ ys xs, rest = ys.zip xs ∧ EqGs prog w A s ys xs) _
  case turn =>
    rintro ⟨y, x⟩ rest b s' ⟨hb', rfl, ys, xs, hz, hR⟩
    cases ys with
    | nil => simp at hz
    | cons y' ys =>
      cases xs with
      | nil => simp at hz
      | cons x' xs =>
        simp only [List.zip_cons_cons, List.cons.injEq, Prod.mk.injEq] at hz
        obtain ⟨⟨rfl, rfl⟩, rfl⟩ := hz
        refine wpAny_bind (hR.1 _ _ ?_)
        wp_walk
        exact ⟨rfl, rfl, ys, xs, rfl, hR.2⟩
  case fin =>
    rintro ⟨b1, b2⟩ s' ⟨hb', rfl, -⟩
    simp only at hb'
    subst hb'
    wp_walk
    exact ⟨_, rfl, by simpa [Builtin.Tuple.tupleCompareSizes, hsz] using h⟩
  case h =>
    exact ⟨rfl, rfl, _, _, rfl, he⟩
theorem tup_ne_all {l b : Addr} {items items2 : Array Value} {n n2 : Nat} {dd dd2 : Option Addr} {sl sl2 : Array (Option Value)} {P : Value → Shared → Prop} {E : Value → Shared → Prop}
    (hl : s.heap.get? l = some { cls := .type "tuple", dict := dd, data := .seq items n, slots := sl }) (hb : s.heap.get? b = some { cls := .type "tuple", dict := dd2, data := .seq items2 n2, slots := sl2 })
    (he : EqGs prog w A s items.toList items2.toList) (h : P (.bool false) s) : wpAny (model prog w) A (Builtin.«tuple.__ne__» ⟨[.ref l, .ref b], []⟩) (fun fin s' => ∃ v, fin = .done (.ret v) ∧ P v s') E s := by
  have f2 := AutoSeq1.sub_tuple_tuple
  have hsz : items.size = items2.size := by simpa using he.size
  wp_walk using AutoSeq1.wpAny_loadPart' hl, AutoSeq1.wpAny_loadPart' hb, wpAny_forIn_list _ (fun rest b s' => b.1 = none ∧ s' = s ∧ ∃ ys xs, rest = ys.zip xs ∧ EqGs prog w A s ys xs) _
  case turn =>
    rintro ⟨y, x⟩ rest b s' ⟨hb', rfl, ys, xs, hz, hR⟩
    cases ys with
    | nil => simp at hz
    | cons y' ys =>
      cases xs with
      | nil => simp at hz
      | cons x' xs =>
        simp only [List.zip_cons_cons, List.cons.injEq, Prod.mk.injEq] at hz
        obtain ⟨⟨rfl, rfl⟩, rfl⟩ := hz
        refine wpAny_bind (hR.1 _ _ ?_)
        wp_walk
        exact ⟨rfl, rfl, ys, xs, rfl, hR.2⟩
  case fin =>
    rintro ⟨b1, b2⟩ s' ⟨hb', rfl, -⟩
    simp only at hb'
    subst hb'
    wp_walk
    exact ⟨_, rfl, by simpa [Builtin.Tuple.tupleCompareSizes, hsz, bne] using h⟩
  case h =>
    exact ⟨rfl, rfl, _, _, rfl, he⟩
end
/-- plain, or a dict of plain values -/
def D.kin : D → Bool
  | .dict ks ds => decide ks.Nodup && D.plains ds && decide (PyData.depthAll (D.pys ds) ≤ 64)
  | d => d.plain && decide (d.py.depth ≤ 64)
theorem depth_le : ∀ {ds : List D} {d : D}, d ∈ ds → d.py.depth ≤ PyData.depthAll (D.pys ds)
  | e :: ds, d, h => by
    simp only [D.pys, PyData.depthAll]
    rcases List.mem_cons.mp h with rfl | h
    · omega
    · have := depth_le h; omega
theorem valueAt_mem {kb : List (Str × Value)} {l : List (Str × Value)} {k : Str} {y : Value} (hn : (l.map (·.1)).Nodup) (hm : (k, y) ∈ l) : valueAt l k = some y := by
  induction l with
  | nil => cases hm
  | cons p l ih =>
    unfold valueAt
    rw [List.map_cons, List.nodup_cons] at hn
    rcases List.mem_cons.mp hm with e | hm
    · rw [← e]; simp
    · have hne : p.1 ≠ k := fun z => hn.1 (List.mem_map.mpr ⟨_, hm, z.symm⟩)
      rw [List.find?_cons_of_neg (by simpa using hne)]
      exact ih hn.2 hm
theorem kin_of {a : Bool} {p : Prop} [Decidable p] (h : (a && decide p) = true) : a = true ∧ p := by simpa using h
theorem kin_dict {ks : List Str} {ds : List D} (h : (D.dict ks ds).kin = true) : (ks.Nodup ∧ D.plains ds = true) ∧ PyData.depthAll (D.pys ds) ≤ 64 := by simpa [D.kin] using h
theorem kin_else {d : D} (h : d.kin = true) : (∃ ks ds, d = .dict ks ds) ∨ (d.plain = true ∧ d.py.depth ≤ 64) := by
  cases d with
  | dict ks ds => exact .inl ⟨_, _, rfl⟩
  | _ => exact .inr (kin_of h)
theorem tup_shape {h : Heap} {a : Addr} {o : Obj} {x : Data} (e : h.get? a = some o) (hc : o.cls = .type "tuple") (hd : o.data = x) : ∃ dd sl, h.get? a = some { cls := .type "tuple", dict := dd, data := x, slots := sl } := by
  obtain ⟨cls, dd, data, sl⟩ := o
  exact ⟨dd, sl, by rw [e, ← hd, ← hc]⟩
section
variable {prog : Program} {w : World} {A : Around} {s : Shared} {V : View} {P : Params}
theorem same_plain (hv : ∀ a o, V a = some o → s.heap.get? a = some o) {va vb : Value} {d : D} (ra : Rp P V va d) (rb : Rp P V vb d) (hp : d.plain = true) (hd : d.py.depth ≤ 64) (hu : A.units + 64 < cLine) : SeqAt.EqAt A s va vb true := by
  obtain ⟨as, r1⟩ := rp_reads hv ra hp
  obtain ⟨bs, r2⟩ := rp_reads hv rb hp
  have := SeqAt.eqAt_reads d.py d.py A s va vb as bs r1 r2 (plain_lay d hp) (plain_lay d hp) (by rw [Nat.min_self]; omega)
  rwa [eqv_self d hp] at this
theorem same_hits (hv : ∀ a o, V a = some o → s.heap.get? a = some o) {kb : List (Str × Value)} (hu : A.units + 64 < cLine) {ks : List Str} {vs ws : List Value} {ds : List D} (r : RpAll P V vs ds) (q : RpAll P V ws ds) (hp : D.plains ds = true) (hd : PyData.depthAll (D.pys ds) ≤ 64)
    (hk : ∀ k y, (k, y) ∈ ks.zip ws → valueAt kb k = some y) : KeqHits A s kb (ks.zip vs) true := by
  induction ks generalizing vs ws ds with
  | nil => exact .nil
  | cons k ks ih =>
    cases ds with
    | nil => obtain rfl := r.inv; exact .nil
    | cons d ds =>
      obtain ⟨v, vs', rfl, r1, r2⟩ := r.inv
      obtain ⟨w', ws', rfl, q1, q2⟩ := q.inv
      have hp := plains_cons hp
      rw [D.pys, PyData.depthAll] at hd
      exact .hit (e := true) (b := true) (hk k w' (.head _)) (same_plain hv r1 q1 hp.1 (Nat.le_trans (Nat.le_max_left _ _) hd) hu) (ih r2 q2 hp.2 (Nat.le_trans (Nat.le_max_right _ _) hd) fun k y m => hk k y (.tail _ m))
theorem same_dict (hv : ∀ a o, V a = some o → s.heap.get? a = some o) {va vb : Value} {ks : List Str} {ds : List D} (ra : Rp w.params V va (.dict ks ds)) (rb : Rp w.params V vb (.dict ks ds)) (hp : (D.dict ks ds).kin = true) (hu : A.units + 66 < cLine) :
    (∀ E Q, Q (.bool true) s → wpAny (model prog w) A (compareOp .Eq va vb) Q E s) ∧ (∀ E Q, Q (.bool false) s → wpAny (model prog w) A (compareOp .NotEq va vb) Q E s) := by
  obtain ⟨⟨hn, hp⟩, hd⟩ := kin_dict hp
  obtain ⟨a, es, n, rfl, za, ha, ka, ra1⟩ := ra.inv
  obtain ⟨b, es2, n2, rfl, zb, hb, kb, rb1⟩ := rb.inv
  have d1 := dictOf_of (prog := prog) (hv _ _ ha) ka hn
  have d2 := dictOf_of (prog := prog) (hv _ _ hb) kb hn
  have hits := same_hits (A := A.in1) (kb := ks.zip (es2.map (·.val))) hv (show A.units + 1 + 64 < _ from Nat.lt_of_succ_lt hu) ra1 rb1 hp hd (fun k y m => valueAt_mem (kb := []) (by rw [zip_fst kb]; exact hn) m)
  have hl : ((ks.zip (es.map (·.val))).length == (ks.zip (es2.map (·.val))).length && true) = true := by
    rw [List.length_zip, List.length_zip, List.length_map, List.length_map, keyed_length ka, keyed_length kb, Bool.and_true]; exact beq_self_eq_true _
  exact ⟨fun E Q h => keq_eq za zb d1 d2 (by omega) (fun _ => hits) (by rw [hl]; exact h), fun E Q h => keq_ne za zb d1 d2 (by omega) (fun _ => hits) (by rw [hl]; exact h)⟩
theorem same_kin (hv : ∀ a o, V a = some o → s.heap.get? a = some o) {va vb : Value} {d : D} (ra : Rp w.params V va d) (rb : Rp w.params V vb d) (hp : d.kin = true) (hu : A.units + 66 < cLine) : EqG prog w A s va vb := by
  rcases kin_else hp with ⟨ks, ds, rfl⟩ | hp'
  · obtain ⟨a, _, _, rfl, _⟩ := ra.inv
    obtain ⟨b, _, _, rfl, _⟩ := rb.inv
    intro E Q h
    unfold eqBool
    refine wpAny_holding ?_
    refine wpAny_ite_split (fun _ => wpAny_bind (wpAny_rule (wpAny_pure h))) (fun _ => ?_)
    exact wpAny_bind ((same_dict hv ra rb hp hu).1 E _ (wpAny_truthy_bool h))
  · exact fun E Q h => same_plain hv ra rb hp'.1 hp'.2 (Nat.lt_of_succ_lt (Nat.lt_of_succ_lt hu)) prog w E Q h
theorem same_kins (hv : ∀ a o, V a = some o → s.heap.get? a = some o) (hu : A.units + 66 < cLine) {vs ws : List Value} {ds : List D} (r : RpAll w.params V vs ds) (q : RpAll w.params V ws ds) (h : ds.all D.kin = true) : EqGs prog w A s vs ws := by
  induction ds generalizing vs ws with
  | nil => obtain rfl := r.inv; obtain rfl := q.inv; trivial
  | cons d ds ih =>
    obtain ⟨v, vs', rfl, r1, r2⟩ := r.inv
    obtain ⟨w', ws', rfl, q1, q2⟩ := q.inv
    rw [List.all_cons, Bool.and_eq_true] at h
    exact ⟨same_kin hv r1 q1 h.1 hu, ih r2 q2 h.2⟩
end
section
variable {C : Ctx} {σ : Store}
theorem eq_same {ds : List D} (h : ds.all D.kin = true) : BinD C σ (compareOp .Eq) (.tup ds) (.tup ds) (.bool true) := by
  refine ⟨fun s va vb g ra rb => Pure1.here fun Q E k => ?_⟩
  have hu : C.A.units + 67 < cLine := by have := g.ok.units; omega
  obtain ⟨a1, oa, vs, n1, rfl, ha, ca, da, ra1⟩ := ra.inv
  obtain ⟨a2, ob, ws, n2, rfl, hb, cb, db, rb1⟩ := rb.inv
  obtain ⟨_, _, ta⟩ := tup_shape (vw_some.mp ha).2.2 ca da
  obtain ⟨_, _, tb⟩ := tup_shape (vw_some.mp hb).2.2 cb db
  have hT : s.TypeIs (.ref a1) "tuple" := ⟨_, ta, rfl⟩
  exact wpAny_richCompare_same_room (op := .Eq) hT ⟨_, tb, rfl⟩ F.slot_tuple_eq (wpAny_call_entry F.slot_tuple_eq hT F.entry_tuple_eq (tup_eq_all (P := fun v s' => v ≠ .notImplemented ∧ Q v s') ta tb (same_kins (A := C.A.in1) vw_get (show C.A.units + 1 + 66 < _ from hu) ra1 rb1 h) ⟨(fun x => nomatch x), k _ s.toks (.bool _)⟩) (F.args_tuple_eq_2 _ _)) (by omega)
theorem ne_same {ds : List D} (h : ds.all D.kin = true) : BinD C σ (compareOp .NotEq) (.tup ds) (.tup ds) (.bool false) := by
  refine ⟨fun s va vb g ra rb => Pure1.here fun Q E k => ?_⟩
  have hu : C.A.units + 67 < cLine := by have := g.ok.units; omega
  obtain ⟨a1, oa, vs, n1, rfl, ha, ca, da, ra1⟩ := ra.inv
  obtain ⟨a2, ob, ws, n2, rfl, hb, cb, db, rb1⟩ := rb.inv
  obtain ⟨_, _, ta⟩ := tup_shape (vw_some.mp ha).2.2 ca da
  obtain ⟨_, _, tb⟩ := tup_shape (vw_some.mp hb).2.2 cb db
  have hT : s.TypeIs (.ref a1) "tuple" := ⟨_, ta, rfl⟩
  exact wpAny_richCompare_same_room (op := .NotEq) hT ⟨_, tb, rfl⟩ F.slot_tuple_ne (wpAny_call_entry F.slot_tuple_ne hT F.entry_tuple_ne (tup_ne_all (P := fun v s' => v ≠ .notImplemented ∧ Q v s') ta tb (same_kins (A := C.A.in1) vw_get (show C.A.units + 1 + 66 < _ from hu) ra1 rb1 h) ⟨(fun x => nomatch x), k _ s.toks (.bool _)⟩) (F.args_tuple_ne_2 _ _)) (by omega)
theorem ne_dict {ks : List Str} {ds : List D} (h : (D.dict ks ds).kin = true) : BinD C σ (compareOp .NotEq) (.dict ks ds) (.dict ks ds) (.bool false) := by
  refine ⟨fun s va vb g ra rb => Pure1.here fun Q E k => ?_⟩
  have hu := g.ok.units
  exact (same_dict vw_get ra rb h (by omega)).2 E Q (k _ s.toks (.bool _))
end
end
section
structure CSide (C : Ctx) (env : Env) (scope : Scope) (cl : List (Str × Addr)) (x : Str) : Prop where
  clos : closureFor scope env = pure cl
  cell : ∀ y ∈ scope.names, y.2 ≠ .cell
  kind : scope.kind = .function
  names : ∀ y ∈ scope.names, y.2 = .local → scope.names.lookup y.1 = some .local
  hx : scope.names.lookup x = some .local
  hcl : ∀ p ∈ cl, env.cells.lookup p.1 = some p.2
  hC : ∃ e0 outer L0, C.envs = e0 :: outer ∧ env.frame = e0.frame ∧ e0.frame = some L0
/-- what a comprehension over ds needs -/
def Turns (C : Ctx) (env : Env) (scope : Scope) (cl : List (Str × Addr)) (x : Str) (elt : Expr) (ifs : List Expr) (ρ : Rho) (X : XP) (ds : List D) (σ₁ : Store) (F : List D → Store → Prop) : Prop :=
  ∃ ρ', Capt env scope cl ρ ρ' ∧ ∃ J : Nat → List D → Store → Prop, J 0 [] σ₁ ∧
      (∀ i d acc new L σ, ds[i]? = some d → J i acc σ → Tsts (C.hide new) (compEnvC scope cl L env) ((x, d) :: ρ') ifs σ (fun b σ' => if b = true then Ev (C.hide new) (compEnvC scope cl L env) ((x, d) :: ρ') elt σ' (fun y σ'' => J (i + 1) (acc ++ [y]) σ'') X else J (i + 1) acc σ') X) ∧
      ∀ acc σ, J ds.length acc σ → F acc σ
section
variable {C : Ctx} {env : Env} {ρ : Rho} {σ : Store} {X : XP} {scope : Scope} {cl : List (Str × Addr)} {x : Str} {elt : Expr} {ifs : List Expr}
theorem ev_listc {px pos : Pos} {iter : Expr} {Q : D → Store → Prop} (cs : CSide C env scope cl x) (hs : ∀ x, foldedSetIterable iter env x = pure x)
    (h : Ev C env ρ iter σ (fun it σ₁ => ∃ ds, ds.length ≤ 1000 ∧ WalkD C σ₁ it ds ∧ Turns C env scope cl x elt ifs ρ X ds σ₁ (fun acc σ => Q (.lst acc) σ)) X) : Ev C env ρ (.ListComp elt [⟨.Name x px, iter, ifs, 0⟩] scope pos) σ Q X := by
  obtain ⟨e0, outer, L0, h1, h2, h3⟩ := cs.hC
  exact ev_comp hs cs.clos cs.cell cs.kind cs.names cs.hx (fun y c e => cs.hcl _ (lookup_pair e)) (fun p hp => lookup_mem (cs.hcl p hp)) h1 h2 h3 h
theorem ex_listc {y : Str} {px py pos spos : Pos} {iter : Expr} {Q : FD → Rho → Store → Prop} (cs : CSide C env scope cl x) (hs : ∀ x, foldedSetIterable iter env x = pure x)
    (hsw : swapsWith (.ListComp elt [⟨.Name x px, iter, ifs, 0⟩] scope pos) (some (.Name y py)) spos.line env = pure true) (hy : env.kindOf y = some .local)
    (h : Ev C env ρ iter σ (fun it σ₁ => ∃ ds, ds.length ≤ 1000 ∧ WalkD C σ₁ it ds ∧ Turns C env scope cl x elt ifs ρ X ds σ₁ (fun acc σ => Q .next ((y, .lst acc) :: ρ) σ)) X) : Ex C env ρ (.Assign [.Name y py] (.ListComp elt [⟨.Name x px, iter, ifs, 0⟩] scope pos) spos) σ Q X := by
  obtain ⟨e0, outer, L0, h1, h2, h3⟩ := cs.hC
  exact ex_comp hsw hy hs cs.clos cs.cell cs.kind cs.names cs.hx (fun y c e => cs.hcl _ (lookup_pair e)) (fun p hp => lookup_mem (cs.hcl p hp)) h1 h2 h3 h
theorem mapM_snoc {f : D → Option D} : ∀ {l : List D} {d : D}, (l ++ [d]).mapM f = (l.mapM f).bind fun ys => (f d).bind fun y => some (ys ++ [y])
  | [], d => by simp [List.mapM_cons]
  | e :: l, d => by
    rw [List.cons_append, List.mapM_cons, List.mapM_cons, mapM_snoc]
    cases f e with
    | none => rfl
    | some y =>
      cases l.mapM f with
      | none => rfl
      | some ys => cases f d <;> rfl
theorem mapM_none {f : D → Option D} {d : D} (h : f d = none) : ∀ {l : List D}, d ∈ l → l.mapM f = none
  | e :: l, m => by
    rw [List.mapM_cons]
    rcases List.mem_cons.mp m with rfl | m
    · rw [h]; rfl
    · rw [mapM_none h m]
      cases f e <;> rfl
/-- an item's value, or the refusal -/
def Got (Q : D → Store → Prop) (X : XP) (msg : Str) (σ : Store) : Option D → Prop
  | some y => Q y σ
  | none => X msg σ
def Gots (F : List D → Store → Prop) (X : XP) (msg : Str) (σ : Store) : Option (List D) → Prop
  | some ys => F ys σ
  | none => X msg σ
theorem turns_map {ds : List D} {F : List D → Store → Prop} {ρ' : Rho} (f : D → Option D) (msg : Str) (cap : Capt env scope cl ρ ρ')
    (h : ∀ d ∈ ds, ∀ new L (Q' : D → Store → Prop), Got Q' X msg σ (f d) → Ev (C.hide new) (compEnvC scope cl L env) ((x, d) :: ρ') elt σ Q' X) (q : Gots F X msg σ (ds.mapM f)) : Turns C env scope cl x elt [] ρ X ds σ F := by
  refine ⟨ρ', cap, fun i acc σ' => σ' = σ ∧ (ds.take i).mapM f = some acc, ⟨rfl, rfl⟩, ?_, ?_⟩
  · rintro i d acc new L σ' hd ⟨rfl, hm⟩
    have hmem : d ∈ ds := List.mem_of_getElem? hd
    refine tsts_nil ?_
    rw [if_pos rfl]
    refine h d hmem new L _ ?_
    cases hf : f d with
    | none => rw [mapM_none hf hmem] at q; exact q
    | some y =>
      refine ⟨rfl, ?_⟩
      rw [List.take_add_one, hd]
      show (ds.take i ++ [d]).mapM f = _
      rw [mapM_snoc, hm, hf]
      rfl
  · rintro acc σ' ⟨rfl, hm⟩
    rw [List.take_length] at hm
    rw [hm] at q
    exact q
theorem turns_filter {ds : List D} {F : List D → Store → Prop} {ρ' : Rho} {c : Expr} (p : D → Bool) (cap : Capt env scope cl ρ ρ')
    (h : ∀ d ∈ ds, ∀ new L (Q' : Bool → Store → Prop), Q' (p d) σ → Tst (C.hide new) (compEnvC scope cl L env) ((x, d) :: ρ') c σ Q' X)
    (h2 : ∀ d ∈ ds, ∀ new L (Q' : D → Store → Prop), Q' d σ → Ev (C.hide new) (compEnvC scope cl L env) ((x, d) :: ρ') elt σ Q' X) (q : F (ds.filter p) σ) : Turns C env scope cl x elt [c] ρ X ds σ F := by
  refine ⟨ρ', cap, fun i acc σ' => σ' = σ ∧ (ds.take i).filter p = acc, ⟨rfl, rfl⟩, ?_, ?_⟩
  · rintro i d acc new L σ' hd ⟨rfl, hm⟩
    have hmem : d ∈ ds := List.mem_of_getElem? hd
    refine tsts_one (h d hmem new L _ ?_)
    have e := take_succ_filter p ds i d hd
    cases hp : p d with
    | true =>
      rw [if_pos rfl]
      refine h2 d hmem new L _ ⟨rfl, ?_⟩
      rw [e, hm, hp, if_pos rfl]
    | false =>
      rw [if_neg (by decide)]
      refine ⟨rfl, ?_⟩
      rw [e, hm, hp, if_neg (by decide), List.append_nil]
  · rintro acc σ' ⟨rfl, hm⟩
    rw [List.take_length] at hm
    rw [hm] at q
    exact q
theorem mapM_some {f : D → D} : ∀ {l : List D}, l.mapM (fun d => some (f d)) = some (l.map f)
  | [] => rfl
  | d :: l => by rw [List.mapM_cons, mapM_some]; rfl
end
end
section
section
variable {P : Params}
/-- a global function or class -/
structure GF (P : Params) (x : Str) (f : Addr) : Prop where
  ns : nsIn (frag P) mainGlobals x = some (some (.ref f))
  keep : keepIn (frag P) (.ref f) = true
  nd : (x == ("__debug__" : Str)) = false
structure BI (P : Params) (x : Str) (v : Value) : Prop where
  ns : nsIn (frag P) mainGlobals x = some none
  bb : bootBuiltins x = some v
  ne : x ≠ "__name__"
  nd : (x == ("__debug__" : Str)) = false
/-- a global constant -/
structure GC (P : Params) (x : Str) (d : D) : Prop where
  ns : ∃ v, nsIn (frag P) mainGlobals x = some (some v) ∧ Rp P (fun a => (frag P).lookup a) v d
  nd : (x == ("__debug__" : Str)) = false
theorem gf_law_item : GF P (Str.ofString "_law_item") 370 := ⟨by kernel_rfl, by kernel_rfl, by decide⟩
theorem gf_law_next : GF P (Str.ofString "_law_next") 344 := ⟨by kernel_rfl, by kernel_rfl, by decide⟩
theorem gf_law_reduced : GF P (Str.ofString "_law_reduced") 351 := ⟨by kernel_rfl, by kernel_rfl, by decide⟩
theorem gf_law_rounded : GF P (Str.ofString "_law_rounded") 394 := ⟨by kernel_rfl, by kernel_rfl, by decide⟩
theorem gf_law_row : GF P (Str.ofString "_law_row") 337 := ⟨by kernel_rfl, by kernel_rfl, by decide⟩
theorem gf_law_seen : GF P (Str.ofString "_law_seen") 363 := ⟨by kernel_rfl, by kernel_rfl, by decide⟩
theorem gf_law_shortened : GF P (Str.ofString "_law_shortened") 401 := ⟨by kernel_rfl, by kernel_rfl, by decide⟩
theorem gf_law_step : GF P (Str.ofString "_law_step") 382 := ⟨by kernel_rfl, by kernel_rfl, by decide⟩
theorem gf_law_value : GF P (Str.ofString "_law_value") 387 := ⟨by kernel_rfl, by kernel_rfl, by decide⟩
theorem gf_law_vector : GF P (Str.ofString "_law_vector") 375 := ⟨by kernel_rfl, by kernel_rfl, by decide⟩
theorem gf_Vector : GF P (Str.ofString "Vector") 250 := ⟨by kernel_rfl, by kernel_rfl, by decide⟩
theorem gf_abs_item : GF P (Str.ofString "abs_item") 273 := ⟨by kernel_rfl, by kernel_rfl, by decide⟩
theorem gf_ceiling : GF P (Str.ofString "ceiling") 169 := ⟨by kernel_rfl, by kernel_rfl, by decide⟩
theorem gf_check_math : GF P (Str.ofString "check_math") 261 := ⟨by kernel_rfl, by kernel_rfl, by decide⟩
theorem gf_compare : GF P (Str.ofString "compare") 225 := ⟨by kernel_rfl, by kernel_rfl, by decide⟩
theorem gf_div : GF P (Str.ofString "div") 141 := ⟨by kernel_rfl, by kernel_rfl, by decide⟩
theorem gf_doubles : GF P (Str.ofString "doubles") 266 := ⟨by kernel_rfl, by kernel_rfl, by decide⟩
theorem gf_exp_item : GF P (Str.ofString "exp_item") 287 := ⟨by kernel_rfl, by kernel_rfl, by decide⟩
theorem gf_exponent : GF P (Str.ofString "exponent") 211 := ⟨by kernel_rfl, by kernel_rfl, by decide⟩
theorem gf_floor : GF P (Str.ofString "floor") 162 := ⟨by kernel_rfl, by kernel_rfl, by decide⟩
theorem gf_from_int : GF P (Str.ofString "from_int") 85 := ⟨by kernel_rfl, by kernel_rfl, by decide⟩
theorem gf_gcd : GF P (Str.ofString "gcd") 71 := ⟨by kernel_rfl, by kernel_rfl, by decide⟩
theorem gf_is_finite : GF P (Str.ofString "is_finite") 106 := ⟨by kernel_rfl, by kernel_rfl, by decide⟩
theorem gf_is_na : GF P (Str.ofString "is_na") 92 := ⟨by kernel_rfl, by kernel_rfl, by decide⟩
theorem gf_is_nan : GF P (Str.ofString "is_nan") 99 := ⟨by kernel_rfl, by kernel_rfl, by decide⟩
theorem gf_isqrt : GF P (Str.ofString "isqrt") 148 := ⟨by kernel_rfl, by kernel_rfl, by decide⟩
theorem gf_keep_all : GF P (Str.ofString "keep_all") 28 := ⟨by kernel_rfl, by kernel_rfl, by decide⟩
theorem gf_log_above : GF P (Str.ofString "log_above") 301 := ⟨by kernel_rfl, by kernel_rfl, by decide⟩
theorem gf_log_item : GF P (Str.ofString "log_item") 294 := ⟨by kernel_rfl, by kernel_rfl, by decide⟩
theorem gf_log_to : GF P (Str.ofString "log_to") 308 := ⟨by kernel_rfl, by kernel_rfl, by decide⟩
theorem gf_make : GF P (Str.ofString "make") 78 := ⟨by kernel_rfl, by kernel_rfl, by decide⟩
theorem gf_marked : GF P (Str.ofString "marked") 120 := ⟨by kernel_rfl, by kernel_rfl, by decide⟩
theorem gf_math_item : GF P (Str.ofString "math_item") 315 := ⟨by kernel_rfl, by kernel_rfl, by decide⟩
theorem gf_math1 : GF P (Str.ofString "math1") 320 := ⟨by kernel_rfl, by kernel_rfl, by decide⟩
theorem gf_mul : GF P (Str.ofString "mul") 134 := ⟨by kernel_rfl, by kernel_rfl, by decide⟩
theorem gf_nearest_whole : GF P (Str.ofString "nearest_whole") 190 := ⟨by kernel_rfl, by kernel_rfl, by decide⟩
theorem gf_neg : GF P (Str.ofString "neg") 127 := ⟨by kernel_rfl, by kernel_rfl, by decide⟩
theorem gf_root : GF P (Str.ofString "root") 155 := ⟨by kernel_rfl, by kernel_rfl, by decide⟩
theorem gf_round_half_even : GF P (Str.ofString "round_half_even") 204 := ⟨by kernel_rfl, by kernel_rfl, by decide⟩
theorem gf_round_to : GF P (Str.ofString "round_to") 325 := ⟨by kernel_rfl, by kernel_rfl, by decide⟩
theorem gf_rounded : GF P (Str.ofString "rounded") 197 := ⟨by kernel_rfl, by kernel_rfl, by decide⟩
theorem gf_sign : GF P (Str.ofString "sign") 113 := ⟨by kernel_rfl, by kernel_rfl, by decide⟩
theorem gf_sign_item : GF P (Str.ofString "sign_item") 280 := ⟨by kernel_rfl, by kernel_rfl, by decide⟩
theorem gf_signif : GF P (Str.ofString "signif") 218 := ⟨by kernel_rfl, by kernel_rfl, by decide⟩
theorem gf_signif_to : GF P (Str.ofString "signif_to") 330 := ⟨by kernel_rfl, by kernel_rfl, by decide⟩
theorem gf_to_whole : GF P (Str.ofString "to_whole") 183 := ⟨by kernel_rfl, by kernel_rfl, by decide⟩
theorem gf_trunc : GF P (Str.ofString "trunc") 176 := ⟨by kernel_rfl, by kernel_rfl, by decide⟩
theorem bi_abs : BI P (Str.ofString "abs") (.builtin "abs") := ⟨by kernel_rfl, by kernel_rfl, by decide, by decide⟩
theorem bi_chr : BI P (Str.ofString "chr") (.builtin "chr") := ⟨by kernel_rfl, by kernel_rfl, by decide, by decide⟩
theorem bi_isinstance : BI P (Str.ofString "isinstance") (.builtin "isinstance") := ⟨by kernel_rfl, by kernel_rfl, by decide, by decide⟩
theorem bi_len : BI P (Str.ofString "len") (.builtin "len") := ⟨by kernel_rfl, by kernel_rfl, by decide, by decide⟩
theorem bi_max : BI P (Str.ofString "max") (.builtin "max") := ⟨by kernel_rfl, by kernel_rfl, by decide, by decide⟩
theorem bi_dict : BI P (Str.ofString "dict") (.type "dict") := ⟨by kernel_rfl, by kernel_rfl, by decide, by decide⟩
theorem bi_list : BI P (Str.ofString "list") (.type "list") := ⟨by kernel_rfl, by kernel_rfl, by decide, by decide⟩
theorem bi_range : BI P (Str.ofString "range") (.type "range") := ⟨by kernel_rfl, by kernel_rfl, by decide, by decide⟩
theorem bi_str : BI P (Str.ofString "str") (.type "str") := ⟨by kernel_rfl, by kernel_rfl, by decide, by decide⟩
theorem gc_INF : GC P (Str.ofString "INF") (.tup [.int 1, .int 0]) := ⟨⟨.ref 62, by kernel_rfl, Rp.tup (by with_unfolding_all rfl) (by with_unfolding_all rfl) (by with_unfolding_all rfl) (.cons (.int _ _) (.cons (.int _ _) .nil))⟩, by decide⟩
theorem gc_NAN : GC P (Str.ofString "NAN") (.tup [.int 0, .int 0]) := ⟨⟨.ref 61, by kernel_rfl, Rp.tup (by with_unfolding_all rfl) (by with_unfolding_all rfl) (by with_unfolding_all rfl) (.cons (.int _ _) (.cons (.int _ _) .nil))⟩, by decide⟩
theorem gc_ONE : GC P (Str.ofString "ONE") (.tup [.int 1, .int 1]) := ⟨⟨.ref 64, by kernel_rfl, Rp.tup (by with_unfolding_all rfl) (by with_unfolding_all rfl) (by with_unfolding_all rfl) (.cons (.int _ _) (.cons (.int _ _) .nil))⟩, by decide⟩
theorem gc_ZERO : GC P (Str.ofString "ZERO") (.tup [.int 0, .int 1]) := ⟨⟨.ref 63, by kernel_rfl, Rp.tup (by with_unfolding_all rfl) (by with_unfolding_all rfl) (by with_unfolding_all rfl) (.cons (.int _ _) (.cons (.int _ _) .nil))⟩, by decide⟩
end
section
variable {C : Ctx} {env : Env} {ρ : Rho} {σ : Store} {X : XP}
theorem ev_callG {x : Str} {p pos : Pos} {f : Addr} {a : Expr} {as : List Expr} {Q : D → Store → Prop} (gf : GF C.w.params x f) (hk : env.kindOf x = some .globalImplicit) (h : Evs C env ρ pos (a :: as) σ (fun ds σ₁ => CallD C (.ref f) ds σ₁ Q X) X)
    (he : starEach (a :: as) env = (false, eval a env) :: starEach as env) (hp : (backTo pos (starEach as env)).any (·.1) = false) : Ev C env ρ (.Call (.Name x p) (a :: as) [] pos) σ Q X := ev_call hk gf.ns gf.keep h gf.nd he hp
theorem ev_callI {x : Str} {p pos : Pos} {id : String} {a : Expr} {as : List Expr} {Q : D → Store → Prop} (b : BI C.w.params x (.builtin id)) (hk : env.kindOf x = some .globalImplicit) (hbi : env.builtins = builtinsNs) (h : Evs C env ρ pos (a :: as) σ (fun ds σ₁ => CallD C (.builtin id) ds σ₁ Q X) X)
    (he : starEach (a :: as) env = (false, eval a env) :: starEach as env) (hp : (backTo pos (starEach as env)).any (·.1) = false) : Ev C env ρ (.Call (.Name x p) (a :: as) [] pos) σ Q X := ev_callB hk b.ns b.bb b.ne hbi h b.nd he hp
theorem ev_callY {x : Str} {p pos : Pos} {T : String} {a : Expr} {as : List Expr} {Q : D → Store → Prop} (b : BI C.w.params x (.type T)) (hk : env.kindOf x = some .globalImplicit) (hbi : env.builtins = builtinsNs) (h : Evs C env ρ pos (a :: as) σ (fun ds σ₁ => CallD C (.type T) ds σ₁ Q X) X)
    (he : starEach (a :: as) env = (false, eval a env) :: starEach as env) (hp : (backTo pos (starEach as env)).any (·.1) = false) : Ev C env ρ (.Call (.Name x p) (a :: as) [] pos) σ Q X := ev_callT hk b.ns b.bb b.ne hbi h b.nd he hp
theorem ev_const {x : Str} {pos : Pos} {d : D} {Q : D → Store → Prop} (gc : GC C.w.params x d) (hk : env.kindOf x = some .globalImplicit) (q : Q d σ) : Ev C env ρ (.Name x pos) σ Q X := by
  obtain ⟨v, h1, h2⟩ := gc.ns
  exact ev_global hk h1 h2 q gc.nd
end
end
local macro_rules | `(tactic| tb_start) => `(tactic| with_unfolding_all eq_refl)
theorem room1 {a b f : Nat} (h : a ≤ f) (k : Nat.ble (b + 1) a = true) : b ≤ f - 1 := Nat.le_sub_of_add_le (Nat.le_trans (Nat.le_of_ble_eq_true k) h)
local macro_rules | `(tactic| ktr_room) => `(tactic| first | with_unfolding_all exact room1 ‹_ ≤ Ctx.fuel _› rfl | ((try dsimp only [Ctx.enter]); omega))
-- two values
local macro_rules | `(tactic| tb_src) => `(tactic| first
  | with_reducible apply eq_ii
  | with_reducible apply lt_ii
  | with_reducible apply gt_ii
  | with_reducible apply ge_ii
  | with_reducible apply le_ii
  | with_reducible apply ne_ii
  | with_reducible apply add_ii
  | with_reducible apply sub_ii
  | with_reducible apply iadd_ii
  | with_reducible apply isub_ii
  | with_reducible apply is_none_none
  | with_reducible apply is_none_tup
  | with_reducible apply is_none_int
  | with_reducible apply isnt_none_none
  | with_reducible apply isnt_none_tup
  | with_reducible apply isnt_none_int
  | with_reducible apply neg_i
  | with_reducible apply tru_bool
  | with_reducible apply mod_ii (by omega)
  | with_reducible apply fdiv_ii (by omega) (by omega)
  | with_reducible apply sub_tup (by decide) (by decide) (by tb_start) (by intros; tb_start)
  | with_reducible apply mul_l (by omega)
  | with_reducible apply mul_r (by omega)
  | with_reducible apply pow_ii (by omega) (by omega) (by omega)
  | with_reducible apply eq_tt
  | with_reducible apply ne_tt
  | fail "no rule of two")
local macro_rules | `(tactic| tb_rel) => `(tactic| first
  | (with_reducible apply ex_cons)
  | (with_reducible apply after_next)
  | (with_reducible apply after_ret)
  | (with_reducible apply back_ret)
  | (with_reducible apply back_next)
  | (with_reducible apply turn_ret)
  | ((with_reducible show Jd _ _ (eval _ _) _ _ _ _ _); first
    | with_reducible apply ev_int
    | with_reducible apply ev_name (by tb_start) ?_ (by decide)
    | with_reducible apply ev_sub
    | with_reducible apply ev_binop
    | with_reducible apply ev_cmp ?_ (by tb_start)
    | with_reducible apply ev_tup
    | with_reducible apply ev_if
    | with_reducible apply ev_str
    | with_reducible apply ev_none
    | with_reducible apply ev_bool
    | with_reducible apply ev_un
    | with_reducible apply ev_one
    | with_reducible apply ev_and
    | with_reducible apply ev_or
    | with_reducible apply ev_list
    | with_reducible apply ev_callI (by first | exact bi_abs | exact bi_max | exact bi_len | exact bi_chr | exact bi_isinstance) (by tb_start) (by tb_start) ?_ (by tb_start) (by tb_start)
    | with_reducible apply ev_callY (by first | exact bi_list | exact bi_range | exact bi_dict | exact bi_str) (by tb_start) (by tb_start) ?_ (by tb_start) (by tb_start)
    | with_reducible apply ev_callG (by first | exact gf_law_item | exact gf_law_next | exact gf_law_reduced | exact gf_law_rounded | exact gf_law_row | exact gf_law_seen | exact gf_law_shortened | exact gf_law_step | exact gf_law_value | exact gf_law_vector | exact gf_Vector | exact gf_abs_item | exact gf_ceiling | exact gf_check_math | exact gf_compare | exact gf_div | exact gf_doubles | exact gf_exp_item | exact gf_exponent | exact gf_floor | exact gf_from_int | exact gf_gcd | exact gf_is_finite | exact gf_is_na | exact gf_is_nan | exact gf_isqrt | exact gf_keep_all | exact gf_log_above | exact gf_log_item | exact gf_log_to | exact gf_make | exact gf_marked | exact gf_math_item | exact gf_math1 | exact gf_mul | exact gf_nearest_whole | exact gf_neg | exact gf_root | exact gf_round_half_even | exact gf_round_to | exact gf_rounded | exact gf_sign | exact gf_sign_item | exact gf_signif | exact gf_signif_to | exact gf_to_whole | exact gf_trunc) (by tb_start) ?_ (by tb_start) (by tb_start)
    | with_reducible apply ev_const (by first | exact gc_ONE | exact gc_ZERO | exact gc_NAN | exact gc_INF) (by tb_start) ?_
    | with_reducible apply ev_attr (by first | exact .inl rfl | exact .inr (.inl rfl) | exact .inr (.inr rfl)) (by tb_start) ?_
    | fail "no rule")
  | ((with_reducible show Jd _ _ (isTrue _ _ _) _ _ _ _ _); first
    | with_reducible apply tst_cmp ?_ (by tb_start)
    | with_reducible apply tst_not
    | with_reducible apply tst_and_nil
    | with_reducible apply tst_or_nil
    | with_reducible apply tst_and
    | with_reducible apply tst_or
    | with_reducible apply tst_value ?_ (by tb_start)
    | fail "no rule")
  | (with_reducible apply evs_cons ?_ (by tb_start))
  | (with_reducible apply evs_nil)
  | (with_reducible apply ite_tt)
  | (with_reducible apply ite_ff)
  | ((with_reducible show ite (decide _ = true) _ _); first
    | apply ite_decT (by omega) ?_
    | apply ite_decF (by omega) ?_
    | refine ite_dec (fun _ => ?_) (fun _ => ?_))
  | ((with_reducible show ite ((_ == _) = true) _ _); first
    | apply ite_eqT (by omega) ?_
    | apply ite_eqF (by omega) ?_
    | refine ite_eqI (fun _ => ?_) (fun _ => ?_))
  | ((with_reducible show ite ((_ != _) = true) _ _); first
    | apply ite_neT (by omega) ?_
    | apply ite_neF (by omega) ?_
    | refine ite_neI (fun _ => ?_) (fun _ => ?_))
  | (with_reducible refine ite_pair (fun _ => ?_) (fun _ => ?_))
  | (with_reducible apply ite_not)
  | (with_reducible apply use_bin (by tb_src) ?_)
  | (with_reducible apply use_binB (by tb_src) ?_)
  | (with_reducible apply use_tru (by tb_src) ?_)
  | (with_reducible apply use_un (by tb_src) ?_)
  | (with_reducible apply ex_nil)
  | ((with_reducible show Xx _ _ _ (exec _ _) _ _ _); first
    | with_reducible apply ex_ret
    | with_reducible apply ex_assign (by first | exact .inl (by tb_start) | exact .inr ⟨by tb_start, by tb_start⟩) ?_ (by tb_start)
    | with_reducible apply ex_if
    | with_reducible apply ex_aug (by tb_start) (by tb_start) ?_
    | with_reducible apply ex_expr ?_ (by tb_start) (by tb_start)
    | with_reducible apply ex_raise (by tb_start) (by ktr_room) ?_
    | with_reducible apply ex_swap (by tb_start) (by tb_start) ?_ (by tb_start) (by tb_start)
    | fail "no rule")
  | ((with_reducible show CallD _ _ _ _ _ _); first
    | with_reducible apply abs_i
    | with_reducible apply max_ii
    | fail "no spec")
  | (with_reducible apply use_pair rfl ?_)
  | (with_reducible apply And.intro (by simp only [List.length]; omega) ?_)
  | fail "no step")
section
section
/-- an item: none, or a fraction with its marks -/
abbrev It := Option (Int × Int)
def It.d : It → D
  | .none => .none
  | some (n, d) => .tup [.int n, .int d]

section
variable {C : Ctx} {σ : Store} {X : XP} {Q : D → Store → Prop}
theorem gcd_spec {a b : Int} (hf : 1 ≤ C.fuel) (ha : 0 ≤ a) (hb : 0 ≤ b) (q : Q (.int (Int.gcd a b)) σ) : CallD C (.ref 71) [.int a, .int b] σ Q X := by
  refine call2 rfl rfl hf (fun _ _ _ => BindsTo.of_eq rfl) rfl rfl (fun L' => ?_) rfl rfl rfl (by decide)
  refine ex_cons ?_
  refine ex_while (fun n ρ σ' => σ' = σ ∧ ∃ x y : Int, ρ = [(Str.ofString "a", .int x), (Str.ofString "b", .int y)] ∧ 0 ≤ x ∧ 0 ≤ y ∧ n = y.toNat ∧ Int.gcd x y = Int.gcd a b) (ρ₀ := [(Str.ofString "a", .int a), (Str.ofString "b", .int b)]) (n := b.toNat) ?_ ⟨rfl, a, b, rfl, ha, hb, rfl, rfl⟩ ?_
  · intro p hp
    simp at hp
    rcases hp with rfl | rfl <;> rfl
  · rintro n ρ σ' ⟨rfl, x, y, rfl, hx, hy, rfl, hg⟩
    repeat' tb_rel
    · rename_i h0
      refine ⟨(x % y).toNat, ?_, [(Str.ofString "a", .int y), (Str.ofString "b", .int (x % y))], ?_, rfl, _, _, rfl, hy, ?_, rfl, ?_⟩
      · have h1 := Int.emod_lt_of_pos x h0
        have h2 := Int.emod_nonneg x (by omega : y ≠ 0)
        omega
      · intro p hp
        simp at hp
        rcases hp with rfl | rfl <;> rfl
      · exact Int.emod_nonneg x (by omega)
      · rw [← hg, gcd_step hx hy]
    · rename_i h0
      have hy0 : y = 0 := by omega
      subst hy0
      have : (Int.gcd x 0 : Int) = x := by rw [Int.gcd_zero_right]; omega
      rw [← hg, this] at q
      exact q

theorem is_na_none (hf : 1 ≤ C.fuel) (q : Q (.bool true) σ) : CallD C (.ref 92) [.none] σ Q X := by
  refine call1 rfl rfl hf (fun _ _ => BindsTo.of_eq rfl) rfl (fun L' => ?_) rfl rfl rfl (by decide)
  repeat' tb_rel
  exact q
theorem is_na_tup {n d : Int} (hf : 1 ≤ C.fuel) (q : Q (.bool (decide (n = 0 ∧ d = 0))) σ) : CallD C (.ref 92) [.tup [.int n, .int d]] σ Q X := by
  refine call1 rfl rfl hf (fun _ _ => BindsTo.of_eq rfl) rfl (fun L' => ?_) rfl rfl rfl (by decide)
  repeat' tb_rel
  all_goals (refine qb ?_ q; simp_all; done)
theorem is_nan_none (hf : 1 ≤ C.fuel) (q : Q (.bool false) σ) : CallD C (.ref 99) [.none] σ Q X := by
  refine call1 rfl rfl hf (fun _ _ => BindsTo.of_eq rfl) rfl (fun L' => ?_) rfl rfl rfl (by decide)
  repeat' tb_rel
  exact q
theorem is_nan_tup {n d : Int} (hf : 1 ≤ C.fuel) (q : Q (.bool (decide (n = 0 ∧ d = 0))) σ) : CallD C (.ref 99) [.tup [.int n, .int d]] σ Q X := by
  refine call1 rfl rfl hf (fun _ _ => BindsTo.of_eq rfl) rfl (fun L' => ?_) rfl rfl rfl (by decide)
  repeat' tb_rel
  all_goals (refine qb ?_ q; simp_all; done)
theorem is_finite_none (hf : 1 ≤ C.fuel) (q : Q (.bool false) σ) : CallD C (.ref 106) [.none] σ Q X := by
  refine call1 rfl rfl hf (fun _ _ => BindsTo.of_eq rfl) rfl (fun L' => ?_) rfl rfl rfl (by decide)
  repeat' tb_rel
  exact q
theorem is_finite_tup {n d : Int} (hf : 1 ≤ C.fuel) (q : Q (.bool (decide (0 < d))) σ) : CallD C (.ref 106) [.tup [.int n, .int d]] σ Q X := by
  refine call1 rfl rfl hf (fun _ _ => BindsTo.of_eq rfl) rfl (fun L' => ?_) rfl rfl rfl (by decide)
  repeat' tb_rel
  exact q
theorem neg_tup {n d : Int} (hf : 1 ≤ C.fuel) (q : Q (.tup [.int (-n), .int d]) σ) : CallD C (.ref 127) [.tup [.int n, .int d]] σ Q X := by
  refine call1 rfl rfl hf (fun _ _ => BindsTo.of_eq rfl) rfl (fun L' => ?_) rfl rfl rfl (by decide)
  repeat' tb_rel
  rw [Int.zero_sub]
  exact q
theorem from_int_none (hf : 1 ≤ C.fuel) (q : Q .none σ) : CallD C (.ref 85) [.none] σ Q X := by
  refine call1 rfl rfl hf (fun _ _ => BindsTo.of_eq rfl) rfl (fun L' => ?_) rfl rfl rfl (by decide)
  repeat' tb_rel
  exact q
theorem from_int_spec {i : Int} (hf : 1 ≤ C.fuel) (q : Q (.tup [.int i, .int 1]) σ) : CallD C (.ref 85) [.int i] σ Q X := by
  refine call1 rfl rfl hf (fun _ _ => BindsTo.of_eq rfl) rfl (fun L' => ?_) rfl rfl rfl (by decide)
  repeat' tb_rel
  exact q
end

end
end
section
local macro_rules | `(tactic| tb_rel) => `(tactic| ((with_reducible show CallD _ _ _ _ _ _); first
    | with_reducible apply gcd_spec (by ktr_room) (by omega) (by omega) ?_
    | with_reducible apply is_na_none (by ktr_room) ?_
    | with_reducible apply is_na_tup (by ktr_room) ?_
    | with_reducible apply is_nan_none (by ktr_room) ?_
    | with_reducible apply is_nan_tup (by ktr_room) ?_
    | with_reducible apply is_finite_none (by ktr_room) ?_
    | with_reducible apply is_finite_tup (by ktr_room) ?_
    | with_reducible apply neg_tup (by ktr_room) ?_
    | with_reducible apply from_int_none (by ktr_room) ?_
    | with_reducible apply from_int_spec (by ktr_room) ?_
    | fail "no spec"))
section
theorem gcd_ite {n d : Int} : Int.gcd (if n < 0 then -n else n) d = Int.gcd n d := by
  split
  · exact Int.neg_gcd
  · rfl
def red (n d : Int) : Int × Int := (n / (Int.gcd n d : Int), d / (Int.gcd n d : Int))
def near (n d : Int) : Int := if 2 * (n - n / d * d) > d ∨ (2 * (n - n / d * d) = d ∧ n / d % 2 = 1) then n / d + 1 else n / d
section
variable {C : Ctx} {σ : Store} {X : XP} {Q : D → Store → Prop}
theorem gcd_pos {n d : Int} (hd : 0 < d) : 0 < (Int.gcd n d : Int) ∧ (Int.gcd n d : Int) ≤ d := by
  have h1 : 0 < Int.gcd n d := Int.gcd_pos_of_ne_zero_right n (by omega)
  have h2 := Int.gcd_le_right n hd
  omega
theorem make_spec {n d : Int} (hf : 2 ≤ C.fuel) (hd : 0 < d) (hs : d < 2 ^ 62) (q : Q (.tup [.int (red n d).1, .int (red n d).2]) σ) : CallD C (.ref 78) [.int n, .int d] σ Q X := by
  have h1 := gcd_pos (n := if n < 0 then -n else n) hd
  refine call2 rfl rfl (by omega) (fun _ _ _ => BindsTo.of_eq rfl) rfl rfl (fun L' => ?_) rfl rfl rfl (by decide)
  repeat' tb_rel
  all_goals first | (exfalso; omega) | skip
  rw [gcd_ite]
  exact q
theorem near_spec {n d : Int} (hf : 1 ≤ C.fuel) (hd : 0 < d) (hs : d < 2 ^ 62) (q : Q (.int (near n d)) σ) : CallD C (.ref 190) [.int n, .int d] σ Q X := by
  refine call2 rfl rfl (by omega) (fun _ _ _ => BindsTo.of_eq rfl) rfl rfl (fun L' => ?_) rfl rfl rfl (by decide)
  unfold near at q
  repeat' tb_rel
  all_goals first | (rw [if_pos (by omega)] at q; exact q) | (rw [if_neg (by omega)] at q; exact q)
theorem to_whole_spec {n d : Int} (hf : 2 ≤ C.fuel) (hd : 0 < d) (hs : d < 2 ^ 62) (q : Q (.int (if 0 ≤ n then n / d else -(-n / d))) σ) : CallD C (.ref 183) [.tup [.int n, .int d]] σ Q X := by
  refine call1 rfl rfl (by omega) (fun _ _ => BindsTo.of_eq rfl) rfl (fun L' => ?_) rfl rfl rfl (by decide)
  repeat' tb_rel
  · rename_i h
    rw [if_pos h] at q
    rw [if_neg (by omega)]
    exact q
  · rename_i h
    rw [if_neg h] at q
    rw [if_pos (by omega), Int.zero_sub]
    exact q
/-- the functions of one item -/
def vAbs : It → It
  | none => none
  | some (n, d) => some (if n < 0 then -n else n, d)
def vSign : It → It
  | none => none
  | some (n, d) => if n = 0 ∧ d = 0 then some (0, 0) else some (if n = 0 then 0 else if 0 < n then 1 else -1, 1)
def vFloor : It → It
  | none => none
  | some (n, d) => if 0 < d then some (n / d, 1) else some (n, d)
def vCeil : It → It
  | none => none
  | some (n, d) => if 0 < d then some (-(-n / d), 1) else some (n, d)
def vTrunc : It → It
  | none => none
  | some (n, d) => if 0 < d then some (if 0 ≤ n then n / d else -(-n / d), 1) else some (n, d)
def vExp : It → Option It
  | none => some none
  | some (n, d) => if n = 0 ∧ d = 0 then some (some (0, 0)) else if n = 1 ∧ d = 0 then some (some (1, 0)) else if n = 0 ∧ d = 1 then some (some (1, 1)) else if d = 0 then some (some (0, 1)) else none
def vLog : It → Option It
  | none => some none
  | some (n, d) => if n = 0 ∧ d = 0 then some (some (0, 0)) else if n = 1 ∧ d = 0 then some (some (1, 0)) else if n = 1 ∧ d = 1 then some (some (0, 1)) else if n = 0 ∧ d = 1 then some (some (-1, 0)) else if n < 0 then some (some (0, 0)) else none
def Small : It → Prop
  | none => True
  | some (n, d) => 0 ≤ d ∧ d < 169 ∧ -484 < n ∧ n < 484
/-- what a function of one item hands back, or its refusal -/
def Fin1 (Q : D → Store → Prop) (X : XP) (σ : Store) : Option It → Prop
  | some y => Q y.d σ
  | none => X "result is not exact" σ
theorem abs_item_spec {x : It} (hf : 3 ≤ C.fuel) (q : Q (vAbs x).d σ) : CallD C (.ref 273) [x.d] σ Q X := by
  refine call1 rfl rfl (by omega) (fun _ _ => BindsTo.of_eq rfl) rfl (fun L' => ?_) rfl rfl rfl (by decide)
  rcases x with _ | ⟨n, d⟩ <;> dsimp only [It.d, vAbs] at q ⊢
  · repeat' tb_rel
    exact q
  · repeat' tb_rel
    all_goals (refine qr ?_ ?_ q <;> first | rfl | (split <;> omega))
theorem sign_tup {n d : Int} (hf : 2 ≤ C.fuel) (h : ¬ (n = 0 ∧ d = 0)) (q : Q (.int (if n = 0 then 0 else if 0 < n then 1 else -1)) σ) : CallD C (.ref 113) [.tup [.int n, .int d]] σ Q X := by
  refine call1 rfl rfl (by omega) (fun _ _ => BindsTo.of_eq rfl) rfl (fun L' => ?_) rfl rfl rfl (by decide)
  repeat' tb_rel
  all_goals (refine qi ?_ q; (repeat' split) <;> first | rfl | (exfalso; omega))
theorem sign_item_spec {x : It} (hf : 4 ≤ C.fuel) (q : Q (vSign x).d σ) : CallD C (.ref 280) [x.d] σ Q X := by
  refine call1 rfl rfl (by omega) (fun _ _ => BindsTo.of_eq rfl) rfl (fun L' => ?_) rfl rfl rfl (by decide)
  rcases x with _ | ⟨n, d⟩ <;> dsimp only [It.d, vSign] at q ⊢
  · repeat' tb_rel
    exact q
  · repeat' first | tb_rel | with_reducible refine sign_tup (by ktr_room) (by omega) ?_
    all_goals rename_i h
    · rw [if_pos h] at q
      exact qr (by omega) (by omega) q
    · rw [if_neg h] at q
      exact q
theorem floor_spec {x : It} (hf : 3 ≤ C.fuel) (hs : Small x) (q : Q (vFloor x).d σ) : CallD C (.ref 162) [x.d] σ Q X := by
  refine call1 rfl rfl (by omega) (fun _ _ => BindsTo.of_eq rfl) rfl (fun L' => ?_) rfl rfl rfl (by decide)
  rcases x with _ | ⟨n, d⟩ <;> dsimp only [It.d, vFloor, Small] at q hs ⊢
  · repeat' tb_rel
    exact q
  · repeat' tb_rel
    all_goals rename_i h
    · rw [if_pos h] at q
      exact q
    · rw [if_neg h] at q
      exact q
theorem floor_tup {n d : Int} (hf : 3 ≤ C.fuel) (hs : d < 2 ^ 62) (q : Q (.tup [.int (if 0 < d then n / d else n), .int (if 0 < d then 1 else d)]) σ) : CallD C (.ref 162) [.tup [.int n, .int d]] σ Q X := by
  refine call1 rfl rfl (by omega) (fun _ _ => BindsTo.of_eq rfl) rfl (fun L' => ?_) rfl rfl rfl (by decide)
  repeat' tb_rel
  all_goals rename_i h
  · rw [if_pos h, if_pos h] at q
    exact q
  · rw [if_neg h, if_neg h] at q
    exact q
theorem neg_none (hf : 1 ≤ C.fuel) (q : Q .none σ) : CallD C (.ref 127) [.none] σ Q X := by
  refine call1 rfl rfl hf (fun _ _ => BindsTo.of_eq rfl) rfl (fun L' => ?_) rfl rfl rfl (by decide)
  repeat' tb_rel
  exact q
theorem floor_none (hf : 3 ≤ C.fuel) (q : Q .none σ) : CallD C (.ref 162) [.none] σ Q X := by
  refine call1 rfl rfl (by omega) (fun _ _ => BindsTo.of_eq rfl) rfl (fun L' => ?_) rfl rfl rfl (by decide)
  repeat' tb_rel
  exact q
theorem ceil_spec {x : It} (hf : 4 ≤ C.fuel) (hs : Small x) (q : Q (vCeil x).d σ) : CallD C (.ref 169) [x.d] σ Q X := by
  refine call1 rfl rfl (by omega) (fun _ _ => BindsTo.of_eq rfl) rfl (fun L' => ?_) rfl rfl rfl (by decide)
  rcases x with _ | ⟨n, d⟩ <;> dsimp only [It.d, vCeil, Small] at q hs ⊢
  · repeat' first | tb_rel | with_reducible refine neg_none (by ktr_room) ?_ | with_reducible refine floor_none (by ktr_room) ?_
    exact q
  · repeat' first | tb_rel | with_reducible refine floor_tup (by ktr_room) (by omega) ?_
    by_cases h : 0 < d
    · rw [if_pos h] at q
      rw [if_pos h, if_pos h]
      exact q
    · rw [if_neg h] at q
      rw [if_neg h, if_neg h, Int.neg_neg]
      exact q
theorem trunc_spec {x : It} (hf : 3 ≤ C.fuel) (hs : Small x) (q : Q (vTrunc x).d σ) : CallD C (.ref 176) [x.d] σ Q X := by
  refine call1 rfl rfl (by omega) (fun _ _ => BindsTo.of_eq rfl) rfl (fun L' => ?_) rfl rfl rfl (by decide)
  rcases x with _ | ⟨n, d⟩ <;> dsimp only [It.d, vTrunc, Small] at q hs ⊢
  · repeat' tb_rel
    exact q
  · repeat' first | tb_rel | with_reducible refine to_whole_spec (by ktr_room) (by omega) (by omega) ?_
    all_goals rename_i h
    · rw [if_pos h] at q
      exact q
    · rw [if_neg h] at q
      exact q
theorem exp_spec {x : It} (hf : 3 ≤ C.fuel) (hs : Small x) (q : Fin1 Q X σ (vExp x)) : CallD C (.ref 287) [x.d] σ Q X := by
  refine call1 rfl rfl (by omega) (fun _ _ => BindsTo.of_eq rfl) rfl (fun L' => ?_) rfl rfl rfl (by decide)
  rcases x with _ | ⟨n, d⟩ <;> dsimp only [It.d, vExp, Small] at q hs ⊢
  · repeat' tb_rel
    exact q
  · repeat' tb_rel
    all_goals (repeat' split at q) <;> first | (exfalso; omega) | exact q | exact qr (by omega) (by omega) q
theorem log_spec {x : It} (hf : 3 ≤ C.fuel) (hs : Small x) (q : Fin1 Q X σ (vLog x)) : CallD C (.ref 294) [x.d] σ Q X := by
  refine call1 rfl rfl (by omega) (fun _ _ => BindsTo.of_eq rfl) rfl (fun L' => ?_) rfl rfl rfl (by decide)
  rcases x with _ | ⟨n, d⟩ <;> dsimp only [It.d, vLog, Small] at q hs ⊢
  · repeat' tb_rel
    exact q
  · repeat' tb_rel
    all_goals (repeat' split at q) <;> first | (exfalso; omega) | exact q | exact qr (by omega) (by omega) q
end

end
end
section
local macro_rules | `(tactic| tb_rel) => `(tactic| ((with_reducible show CallD _ _ _ _ _ _); first
    | with_reducible apply gcd_spec (by ktr_room) (by omega) (by omega) ?_
    | with_reducible apply is_na_none (by ktr_room) ?_
    | with_reducible apply is_na_tup (by ktr_room) ?_
    | with_reducible apply is_nan_none (by ktr_room) ?_
    | with_reducible apply is_nan_tup (by ktr_room) ?_
    | with_reducible apply is_finite_none (by ktr_room) ?_
    | with_reducible apply is_finite_tup (by ktr_room) ?_
    | with_reducible apply neg_tup (by ktr_room) ?_
    | with_reducible apply from_int_none (by ktr_room) ?_
    | with_reducible apply from_int_spec (by ktr_room) ?_
    | with_reducible apply make_spec (by ktr_room) (by omega) (by omega) ?_
    | with_reducible apply near_spec (by ktr_room) (by omega) (by omega) ?_
    | with_reducible apply to_whole_spec (by ktr_room) (by omega) (by omega) ?_
    | fail "no spec"))
section
section
variable {C : Ctx} {σ : Store} {X : XP} {Q : D → Store → Prop}
theorem newton {n g : Int} (hg : 1 ≤ g) (hn : 0 ≤ n) : n < ((g + n / g) / 2 + 1) * ((g + n / g) / 2 + 1) := by
  have h1 : n < g * (n / g + 1) := by
    have := Int.lt_ediv_add_one_mul_self n (show 0 < g by omega)
    rw [Int.mul_comm]; exact this
  have h0 : 0 ≤ n / g := Int.ediv_nonneg hn (by omega)
  generalize n / g = q at *
  have h2 : g + q + 1 ≤ 2 * ((g + q) / 2 + 1) := by omega
  generalize (g + q) / 2 + 1 = b at *
  have h3 : (g + q + 1) * (g + q + 1) ≤ (2 * b) * (2 * b) := Int.mul_le_mul h2 h2 (by omega) (by omega)
  have h4 : 0 ≤ (g - (q + 1)) * (g - (q + 1)) := by
    rcases Int.le_total 0 (g - (q + 1)) with h | h
    · exact Int.mul_nonneg h h
    · exact Int.mul_nonneg_of_nonpos_of_nonpos h h
  have e1 : (g + q + 1) * (g + q + 1) = (g - (q + 1)) * (g - (q + 1)) + 4 * (g * (q + 1)) := by grind
  have e2 : (2 * b) * (2 * b) = 4 * (b * b) := by grind
  omega
theorem isqrt_spec {n : Int} (hf : 1 ≤ C.fuel) (h0 : 0 ≤ n) (hn : n < 1000) (q : ∀ r, 0 ≤ r ∧ r ≤ n → r * r ≤ n → n < (r + 1) * (r + 1) → Q (.int r) σ) : CallD C (.ref 148) [.int n] σ Q X := by
  refine call1 rfl rfl hf (fun _ _ => BindsTo.of_eq rfl) rfl (fun L' => ?_) rfl rfl rfl (by decide)
  repeat' tb_rel
  · have : n = 0 ∨ n = 1 := by omega
    refine q n ⟨h0, Int.le_refl _⟩ ?_ ?_
    · rcases this with rfl | rfl <;> decide
    · rcases this with rfl | rfl <;> decide
  refine ex_while (fun k ρ σ' => σ' = σ ∧ ∃ g : Int, ρ = [(Str.ofString "n", .int n), (Str.ofString "guess", .int g)] ∧ 1 ≤ g ∧ g ≤ 2 * n ∧ k = (2 * n - g).toNat) (ρ₀ := [(Str.ofString "n", .int n), (Str.ofString "guess", .int 1)]) (n := (2 * n - 1).toNat) ?_ ⟨rfl, 1, rfl, by omega, by omega, rfl⟩ ?_
  · intro p hp
    simp at hp
    rcases hp with rfl | rfl <;> rfl
  rintro k ρ σ' ⟨rfl, g, rfl, hg, hb, rfl⟩
  repeat' tb_rel
  · rename_i hl
    have : g ≤ g * g := by
      have := Int.mul_le_mul_of_nonneg_left hg (show 0 ≤ g by omega)
      omega
    refine ⟨(2 * n - g * 2).toNat, by omega, [(Str.ofString "n", .int n), (Str.ofString "guess", .int (g * 2))], ?_, rfl, _, rfl, by omega, by omega, rfl⟩
    intro p hp
    simp at hp
    rcases hp with rfl | rfl <;> rfl
  rename_i hlt hl
  refine ex_while (fun k ρ s2 => s2 = σ' ∧ ∃ g : Int, ρ = [(Str.ofString "n", .int n), (Str.ofString "guess", .int g), (Str.ofString "better", .int ((g + n / g) / 2))] ∧ 1 ≤ g ∧ g ≤ 2 * n ∧ n < (g + 1) * (g + 1) ∧ k = g.toNat) (ρ₀ := [(Str.ofString "n", .int n), (Str.ofString "guess", .int g), (Str.ofString "better", .int ((g + n / g) / 2))]) (n := g.toNat) ?_ ⟨rfl, g, rfl, hg, hb, ?_, rfl⟩ ?_
  · intro p hp
    simp at hp
    rcases hp with rfl | rfl | rfl <;> rfl
  · have e : (g + 1) * (g + 1) = g * g + 2 * g + 1 := by grind
    omega
  rintro k ρ s2 ⟨rfl, g, rfl, hg, hb, hs, rfl⟩
  have hq : 0 ≤ n / g := Int.ediv_nonneg h0 (by omega)
  repeat' tb_rel
  · rename_i hlb
    have h1 : 1 ≤ (g + n / g) / 2 := by
      by_cases h : g = 1
      · subst h
        rw [Int.ediv_one]; omega
      · omega
    have hnw := newton hg h0
    generalize n / g = w at *
    repeat' tb_rel
    refine ⟨((g + w) / 2).toNat, by omega, [(Str.ofString "n", .int n), (Str.ofString "guess", .int ((g + w) / 2)), (Str.ofString "better", .int (((g + w) / 2 + n / ((g + w) / 2)) / 2))], ?_, rfl, _, rfl, h1, by omega, hnw, rfl⟩
    intro p hp
    simp at hp
    rcases hp with rfl | rfl | rfl <;> rfl
  · rename_i hlb
    refine q g ⟨by omega, by have := Int.mul_ediv_self_le (x := n) (k := g) (by omega); have := Int.mul_le_mul_of_nonneg_left (show 1 ≤ n / g by omega) (show 0 ≤ g by omega); omega⟩ ?_ hs
    have h1 : g ≤ n / g := by omega
    have h2 := Int.mul_le_mul_of_nonneg_left h1 (show 0 ≤ g by omega)
    have h3 := Int.mul_ediv_self_le (x := n) (k := g) (by omega)
    omega
end
/-- the root of a square below 484 -/
def sq (n : Int) : Option Int := ((List.range 22).map Int.ofNat).find? fun a => a * a == n
theorem sq_some {n r : Int} (h0 : 0 ≤ r) (h : r * r = n) (hn : n < 484) : sq n = some r := by
  have hr : r < 22 := by
    rcases Int.lt_or_le r 22 with h | h
    · exact h
    · have := Int.mul_le_mul h h (by omega) (by omega)
      omega
  subst h
  obtain ⟨m, rfl⟩ := Int.eq_ofNat_of_zero_le h0
  have : m < 22 := by omega
  clear hn hr h0
  revert m
  decide
theorem sq_none {n r : Int} (h0 : 0 ≤ r) (h1 : r * r < n) (h2 : n < (r + 1) * (r + 1)) : sq n = none := by
  rw [sq, List.find?_eq_none]
  intro a ha hq
  simp only [List.mem_map, List.mem_range] at ha
  obtain ⟨m, hm, rfl⟩ := ha
  simp only [beq_iff_eq] at hq
  have hm0 : (0 : Int) ≤ Int.ofNat m := Int.natCast_nonneg m
  generalize Int.ofNat m = a at *
  rcases Int.lt_or_le r a with h | h
  · have := Int.mul_le_mul (show r + 1 ≤ a by omega) (show r + 1 ≤ a by omega) (by omega) (by omega)
    omega
  · have := Int.mul_le_mul h h (by omega) (by omega)
    omega
def vSqrt : It → Option It
  | none => some none
  | some (n, d) => if n = 0 ∧ d = 0 then some (some (0, 0)) else if n = 1 ∧ d = 0 then some (some (1, 0)) else if n < 0 then some (some (0, 0)) else
    match sq n, sq d with
    | some a, some b => some (some (a, b))
    | _, _ => none
section
variable {C : Ctx} {σ : Store} {X : XP} {Q : D → Store → Prop}
theorem root_spec {x : It} (hf : 3 ≤ C.fuel) (hs : Small x) (q : Fin1 Q X σ (vSqrt x)) : CallD C (.ref 155) [x.d] σ Q X := by
  refine call1 rfl rfl (by omega) (fun _ _ => BindsTo.of_eq rfl) rfl (fun L' => ?_) rfl rfl rfl (by decide)
  rcases x with _ | ⟨n, d⟩ <;> dsimp only [It.d, vSqrt, Small] at q hs ⊢
  · repeat' tb_rel
    exact q
  · repeat' first | tb_rel | with_reducible refine isqrt_spec (by ktr_room) (by omega) (by omega) (fun _ _ _ _ => ?_)
    · rw [if_pos ‹n = 0 ∧ d = 0›] at q
      exact qr (by omega) (by omega) q
    · rw [if_neg ‹¬ (n = 0 ∧ d = 0)›, if_pos ‹n = 1 ∧ d = 0›] at q
      exact qr (by omega) (by omega) q
    · rw [if_neg ‹¬ (n = 0 ∧ d = 0)›, if_neg ‹¬ (n = 1 ∧ d = 0)›, if_pos ‹n < 0›] at q
      exact q
    all_goals
      have ra : ∀ a b : Int, 0 ≤ a ∧ a ≤ n → a * a = n → 0 ≤ b ∧ b ≤ d → b * b = d → sq n = some a ∧ sq d = some b := fun a b ha ha1 hb hb1 => ⟨sq_some ha.1 ha1 (by omega), sq_some hb.1 hb1 (by omega)⟩
      rw [if_neg ‹¬ (n = 0 ∧ d = 0)›, if_neg ‹¬ (n = 1 ∧ d = 0)›, if_neg ‹¬ n < 0›] at q
    · rename_i a ha ha1 ha2 b hb hb1 hb2 hx
      rw [sq_none ha.1 (by omega) ha2] at q; exact q
    · rename_i a ha ha1 ha2 b hb hb1 hb2 hx hy
      rw [sq_none hb.1 (by omega) hb2] at q
      split at q
      · rename_i z; cases z
      · exact q
    · rename_i a ha ha1 ha2 b hb hb1 hb2 hx hy
      rw [(ra a b ha hx hb hy).1, (ra a b ha hx hb hy).2] at q
      exact q
end

end
end
section
local macro_rules | `(tactic| tb_rel) => `(tactic| ((with_reducible show CallD _ _ _ _ _ _); first
    | with_reducible apply gcd_spec (by ktr_room) (by omega) (by omega) ?_
    | with_reducible apply is_na_none (by ktr_room) ?_
    | with_reducible apply is_na_tup (by ktr_room) ?_
    | with_reducible apply is_nan_none (by ktr_room) ?_
    | with_reducible apply is_nan_tup (by ktr_room) ?_
    | with_reducible apply is_finite_none (by ktr_room) ?_
    | with_reducible apply is_finite_tup (by ktr_room) ?_
    | with_reducible apply neg_tup (by ktr_room) ?_
    | with_reducible apply from_int_none (by ktr_room) ?_
    | with_reducible apply from_int_spec (by ktr_room) ?_
    | with_reducible apply make_spec (by ktr_room) (by omega) (by omega) ?_
    | with_reducible apply near_spec (by ktr_room) (by omega) (by omega) ?_
    | with_reducible apply to_whole_spec (by ktr_room) (by omega) (by omega) ?_
    | fail "no spec"))
section
def expo (n d : Int) : Int := if 100 * d ≤ n then 2 else if 10 * d ≤ n then 1 else if d ≤ n then 0 else if d ≤ 10 * n then -1 else if d ≤ 100 * n then -2 else -3
theorem expo2 {m d : Int} (h : 100 * d ≤ m) : expo m d = 2 := if_pos h
theorem expo1 {m d : Int} (h : ¬ 100 * d ≤ m) (h2 : 10 * d ≤ m) : expo m d = 1 := (if_neg h).trans (if_pos h2)
theorem expo0 {m d : Int} (hd : 0 < d) (h : ¬ 10 * d ≤ m) (h2 : d ≤ m) : expo m d = 0 := (if_neg (by omega)).trans ((if_neg h).trans (if_pos h2))
theorem expoN {m d : Int} (hd : 0 < d) (h : m < d) : expo m d = if d ≤ 10 * m then -1 else if d ≤ 100 * m then -2 else -3 := (if_neg (by omega)).trans ((if_neg (by omega)).trans (if_neg (by omega)))
theorem expo_bound {m d : Int} : -3 ≤ expo m d ∧ expo m d ≤ 2 := by
  unfold expo
  repeat' split
  all_goals decide
/-- the first loop's state -/
def Up (m d c e : Int) : Prop := (e = 0 ∧ c = d) ∨ (e = 1 ∧ c = 10 * d ∧ 10 * d ≤ m) ∨ (e = 2 ∧ c = 100 * d ∧ 100 * d ≤ m)
theorem Up.bound {m d c e : Int} (h : Up m d c e) (hd : 0 < d) (hm : m < 484) : 0 ≤ e ∧ e ≤ 2 ∧ 0 < c := by
  rcases h with ⟨rfl, rfl⟩ | ⟨rfl, rfl, h⟩ | ⟨rfl, rfl, h⟩
  · exact ⟨by decide, by decide, hd⟩
  · exact ⟨by decide, by decide, by omega⟩
  · exact ⟨by decide, by decide, by omega⟩
theorem Up.step {m d c e : Int} (h : Up m d c e) (hd : 0 < d) (hm : m < 484) (hl : 10 * c ≤ m) : Up m d (c * 10) (e + 1) := by
  rcases h with ⟨rfl, rfl⟩ | ⟨rfl, rfl, h⟩ | ⟨rfl, rfl, h⟩
  · exact .inr (.inl ⟨rfl, by omega, hl⟩)
  · exact .inr (.inr ⟨rfl, by omega, by omega⟩)
  · exfalso; omega
/-- the second loop's -/
def Dn (m c e y z : Int) : Prop := (z = e ∧ y = m) ∨ (e = 0 ∧ ((z = -1 ∧ y = 10 * m ∧ m < c) ∨ (z = -2 ∧ y = 100 * m ∧ 10 * m < c) ∨ (z = -3 ∧ y = 1000 * m ∧ 100 * m < c)))
theorem Dn.bound {m c e y z : Int} (h : Dn m c e y z) (he : 0 ≤ e ∧ e ≤ 2 ∧ 0 < c) : -3 ≤ z ∧ z ≤ 2 := by
  rcases h with ⟨rfl, _⟩ | ⟨_, ⟨rfl, _⟩ | ⟨rfl, _⟩ | ⟨rfl, _⟩⟩
  · exact ⟨by omega, he.2.1⟩
  all_goals exact ⟨by decide, by decide⟩
theorem Dn.step {m d c e y z : Int} (h : Dn m c e y z) (hc : Up m d c e) (h0 : 0 < m) (hd : d < 169) (hl : y < c) : Dn m c e (y * 10) (z - 1) ∧ True := by
  refine ⟨?_, trivial⟩
  rcases h with ⟨rfl, rfl⟩ | ⟨rfl, ⟨rfl, rfl, h⟩ | ⟨rfl, rfl, h⟩ | ⟨rfl, rfl, h⟩⟩
  · rcases hc with ⟨rfl, rfl⟩ | ⟨rfl, rfl, h⟩ | ⟨rfl, rfl, h⟩
    · exact .inr ⟨rfl, .inl ⟨rfl, by omega, hl⟩⟩
    · exfalso; omega
    · exfalso; omega
  · exact .inr ⟨rfl, .inr (.inl ⟨rfl, by omega, hl⟩)⟩
  · exact .inr ⟨rfl, .inr (.inr ⟨rfl, by omega, hl⟩)⟩
  · exfalso
    rcases hc with ⟨_, rfl⟩ | ⟨h, _⟩ | ⟨h, _⟩
    · omega
    · cases h
    · cases h
theorem expo_end {m d c e y z : Int} (hd : 0 < d) (h0 : 0 < m) (hc : Up m d c e) (hl : ¬ 10 * c ≤ m) (h : Dn m c e y z) (hl' : ¬ y < c) : expo m d = z := by
  rcases h with ⟨rfl, rfl⟩ | ⟨rfl, h⟩
  · rcases hc with ⟨rfl, rfl⟩ | ⟨rfl, rfl, h⟩ | ⟨rfl, rfl, h⟩
    · exact expo0 hd hl (by omega)
    · exact expo1 (by omega) h
    · exact expo2 h
  · have hcd : c = d := by
      rcases hc with ⟨_, h⟩ | ⟨h, _⟩ | ⟨h, _⟩
      · exact h
      · cases h
      · cases h
    subst hcd
    rcases h with ⟨rfl, rfl, h⟩ | ⟨rfl, rfl, h⟩ | ⟨rfl, rfl, h⟩
    · rw [expoN hd h, if_pos (by omega)]
    · rw [expoN hd (by omega), if_neg (by omega), if_pos (by omega)]
    · rw [expoN hd (by omega), if_neg (by omega), if_neg (by omega)]
def ten (p : Int) : Int := 10 ^ p.toNat
theorem ten_bound {p : Int} (h : p ≤ 13) : 0 < ten p ∧ ten p ≤ 10000000000000 := by
  have : p.toNat ≤ 13 := by omega
  unfold ten
  generalize p.toNat = k at *
  revert k
  decide
def vRnd (n d p : Int) : Int × Int := if 0 ≤ p then red (near (n * ten p) d) (ten p) else (near n (d * ten (-p)) * ten (-p), 1)
def vRound (p : Int) : It → It
  | none => none
  | some (n, d) => if 0 < d then some (vRnd n d p) else some (n, d)
def vSig (k : Int) : It → It
  | none => none
  | some (n, d) => if 0 < d ∧ n ≠ 0 then some (vRnd n d ((if k > 1 then k else 1) - 1 - expo (if n < 0 then -n else n) d)) else some (n, d)
inductive Nm where
  | abs | sign | floor | ceiling | trunc | sqrt | exp | log
def Nm.str : Nm → Str
  | .abs => Str.ofString "abs"
  | .sign => Str.ofString "sign"
  | .floor => Str.ofString "floor"
  | .ceiling => Str.ofString "ceiling"
  | .trunc => Str.ofString "trunc"
  | .sqrt => Str.ofString "sqrt"
  | .exp => Str.ofString "exp"
  | .log => Str.ofString "log"
def vMath : Nm → It → Option It
  | .abs, x => some (vAbs x)
  | .sign, x => some (vSign x)
  | .floor, x => some (vFloor x)
  | .ceiling, x => some (vCeil x)
  | .trunc, x => some (vTrunc x)
  | .sqrt, x => vSqrt x
  | .exp, x => vExp x
  | .log, x => vLog x
section
variable {C : Ctx} {σ : Store} {X : XP} {Q : D → Store → Prop}
theorem pow_ten {j : Int} (h0 : 0 ≤ j) (hj : j ≤ 1000) : BinD C σ (binaryOp .Pow) (.int 10) (.int j) (.int (ten j)) := pow_ii h0 hj (by decide)
theorem exponent_spec {n d : Int} (hf : 3 ≤ C.fuel) (hs : Small (some (n, d))) (hd : 0 < d) (hn : n ≠ 0) (q : Q (.int (expo (if n < 0 then -n else n) d)) σ) : CallD C (.ref 211) [.tup [.int n, .int d]] σ Q X := by
  refine call1 rfl rfl (by omega) (fun _ _ => BindsTo.of_eq rfl) rfl (fun L' => ?_) rfl rfl rfl (by decide)
  dsimp only [Small] at hs
  have hm : 0 < (if n < 0 then -n else n) ∧ (if n < 0 then -n else n) < 484 := by split <;> omega
  have hd9 := hs.2.1
  clear hs
  repeat' tb_rel
  generalize (if n < 0 then -n else n) = m at *
  refine ex_while (fun k ρ σ' => σ' = σ ∧ ∃ c e : Int, ρ = [(Str.ofString "n", .int m), (Str.ofString "d", .int c), (Str.ofString "e", .int e)] ∧ k = (3 - e).toNat ∧ Up m d c e) (ρ₀ := [(Str.ofString "n", .int m), (Str.ofString "d", .int d), (Str.ofString "e", .int 0)]) (n := 3) ?_ ⟨rfl, d, 0, rfl, rfl, .inl ⟨rfl, rfl⟩⟩ ?_
  · intro p hp
    simp at hp
    rcases hp with rfl | rfl | rfl <;> rfl
  rintro k ρ σ' ⟨rfl, c, e, rfl, rfl, hc⟩
  have hb := hc.bound hd hm.2
  repeat' tb_rel
  · rename_i hl
    have hc' := hc.step hd hm.2 (by omega)
    have hb' := hc'.bound hd hm.2
    clear hc
    refine ⟨(3 - (e + 1)).toNat, by omega, [(Str.ofString "n", .int m), (Str.ofString "d", .int (c * 10)), (Str.ofString "e", .int (e + 1))], ?_, rfl, _, _, rfl, rfl, hc'⟩
    intro p hp
    simp at hp
    rcases hp with rfl | rfl | rfl <;> rfl
  rename_i hl
  refine ex_while (fun k ρ s2 => s2 = σ' ∧ ∃ y z : Int, ρ = [(Str.ofString "n", .int y), (Str.ofString "d", .int c), (Str.ofString "e", .int z)] ∧ k = (z + 4).toNat ∧ Dn m c e y z) (ρ₀ := [(Str.ofString "n", .int m), (Str.ofString "d", .int c), (Str.ofString "e", .int e)]) (n := (e + 4).toNat) ?_ ⟨rfl, m, e, rfl, rfl, .inl ⟨rfl, rfl⟩⟩ ?_
  · intro p hp
    simp at hp
    rcases hp with rfl | rfl | rfl <;> rfl
  rintro k ρ s2 ⟨rfl, y, z, rfl, rfl, hz⟩
  have hzb := hz.bound hb
  repeat' tb_rel
  · rename_i hl'
    have hz' := hz.step hc hm.1 hd9 hl'
    clear hz hc
    refine ⟨(z - 1 + 4).toNat, by omega, [(Str.ofString "n", .int (y * 10)), (Str.ofString "d", .int c), (Str.ofString "e", .int (z - 1))], ?_, rfl, _, _, rfl, rfl, hz'.1⟩
    intro p hp
    simp at hp
    rcases hp with rfl | rfl | rfl <;> rfl
  · rename_i hl'
    exact qi (expo_end hd hm.1 hc (by omega) hz hl') q
theorem rounded_spec {n d p : Int} (hf : 4 ≤ C.fuel) (hs : Small (some (n, d))) (hd : 0 < d) (hp : -13 ≤ p ∧ p ≤ 13) (q : Q (It.d (some (vRnd n d p))) σ) : CallD C (.ref 197) [.tup [.int n, .int d], .int p] σ Q X := by
  refine call2 rfl rfl (by omega) (fun _ _ _ => BindsTo.of_eq rfl) rfl rfl (fun L' => ?_) rfl rfl rfl (by decide)
  dsimp only [Small] at hs
  unfold vRnd at q
  have h1 := ten_bound (p := p) (by omega)
  have h2 := ten_bound (p := 0 - p) (by omega)
  have h3 : d * ten (0 - p) < 2 ^ 62 ∧ 0 < d * ten (0 - p) := by
    refine ⟨?_, Int.mul_pos hd h2.1⟩
    have := Int.mul_le_mul (show d ≤ 169 by omega) h2.2 (by omega) (by omega)
    omega
  repeat' first | with_reducible refine use_bin (pow_ten (by omega) (by omega)) ?_ | tb_rel
  · rename_i h
    rw [if_pos h] at q
    exact q
  · rename_i h
    rw [if_neg h] at q
    rw [Int.zero_sub] at *
    exact q
theorem rhe_spec {x : It} {p : Int} (hf : 5 ≤ C.fuel) (hs : Small x) (hp : -13 ≤ p ∧ p ≤ 13) (q : Q (vRound p x).d σ) : CallD C (.ref 204) [x.d, .int p] σ Q X := by
  refine call2 rfl rfl (by omega) (fun _ _ _ => BindsTo.of_eq rfl) rfl rfl (fun L' => ?_) rfl rfl rfl (by decide)
  rcases x with _ | ⟨n, d⟩ <;> dsimp only [It.d, vRound] at q ⊢
  · repeat' tb_rel
    exact q
  · have hm : (if -400 > p then -400 else p) = p := if_neg (by omega)
    repeat' tb_rel
    · rename_i h
      rw [if_pos h] at q
      rw [hm]
      exact rounded_spec (by ktr_room) hs h hp q
    · rename_i h
      rw [if_neg h] at q
      exact q
theorem sig_spec {x : It} {k : Int} (hf : 5 ≤ C.fuel) (hs : Small x) (hk : 0 ≤ k ∧ k ≤ 11) (q : Q (vSig k x).d σ) : CallD C (.ref 218) [x.d, .int k] σ Q X := by
  refine call2 rfl rfl (by omega) (fun _ _ _ => BindsTo.of_eq rfl) rfl rfl (fun L' => ?_) rfl rfl rfl (by decide)
  rcases x with _ | ⟨n, d⟩ <;> dsimp only [It.d, vSig] at q ⊢
  · repeat' tb_rel
    exact q
  · repeat' first | tb_rel | with_reducible refine exponent_spec (by ktr_room) hs (by omega) (by omega) ?_
    · rw [if_neg (by omega)] at q
      exact q
    · rename_i h h0
      rw [if_pos (by omega)] at q
      have he := expo_bound (m := if n < 0 then -n else n) (d := d)
      dsimp only [Small] at hs
      refine rounded_spec (by ktr_room) hs h ?_ ?_
      · generalize expo (if n < 0 then -n else n) d = z at he
        have hk2 : 0 ≤ (if k > 1 then k else 1) ∧ (if k > 1 then k else 1) ≤ 11 := by split <;> omega
        first | omega | (have hk3 : (if 1 > k then 1 else k) = (if k > 1 then k else 1) := by (repeat' (first | omega | split))
                         omega)
      · have : (if 1 > k then 1 else k) = (if k > 1 then k else 1) := by repeat' (first | omega | split)
        first | exact q | (rw [this]; exact q)
    · rw [if_neg (by omega)] at q
      exact q
theorem math_item_spec {nm : Nm} {x : It} (hf : 5 ≤ C.fuel) (hs : Small x) (q : Fin1 Q X σ (vMath nm x)) : CallD C (.ref 315) [.str nm.str, x.d] σ Q X := by
  refine call2 rfl rfl (by omega) (fun _ _ _ => BindsTo.of_eq rfl) rfl rfl (fun L' => ?_) rfl rfl rfl (by decide)
  cases nm <;> (dsimp only [Nm.str, vMath] at q ⊢; repeat' first
    | tb_rel
    | (with_reducible refine use_binB (eq_ss (by decide +kernel) (by decide +kernel)) ?_)
    | ((with_reducible show ite ((_ == _) = true) _ _); first | rw [if_neg (by decide +kernel)] | rw [if_pos (by decide +kernel)])
    | with_reducible refine abs_item_spec (by ktr_room) ?_
    | with_reducible refine sign_item_spec (by ktr_room) ?_
    | with_reducible refine floor_spec (by ktr_room) hs ?_
    | with_reducible refine ceil_spec (by ktr_room) hs ?_
    | with_reducible refine trunc_spec (by ktr_room) hs ?_
    | with_reducible refine root_spec (by ktr_room) hs ?_
    | with_reducible refine exp_spec (by ktr_room) hs ?_
    | with_reducible refine log_spec (by ktr_room) hs ?_
    | exact q)
end

end
end
section
local macro_rules | `(tactic| tb_rel) => `(tactic| ((with_reducible show CallD _ _ _ _ _ _); first
    | with_reducible apply list_copy (by omega) ?_
    | with_reducible apply len_lst (by omega) ?_
    | with_reducible apply range1
    | with_reducible apply from_int_none (by ktr_room) ?_
    | with_reducible apply from_int_spec (by ktr_room) ?_
    | fail "no spec"))
section
inductive Kd where
  | log | int | dbl
def Kd.str : Kd → Str
  | .log => Str.ofString "logical"
  | .int => Str.ofString "integer"
  | .dbl => Str.ofString "double"
abbrev vec (k : Str) (ds : List D) (a : D) : D := .inst 250 vecK [.str k, .lst ds, a, .bool false, .bool false]
theorem fld_kind {a b c d e : D} : fld "kind" vecK [a, b, c, d, e] = some a := by rfl
theorem fld_items {a b c d e : D} : fld "items" vecK [a, b, c, d, e] = some b := by rfl
theorem fld_attrs {a b c d e : D} : fld "attrs" vecK [a, b, c, d, e] = some c := by rfl
theorem use_kind {k : Str} {ds : List D} {a : D} {Q : D → Prop} (q : Q (.str k)) : ∃ ks es d, vec k ds a = .inst 250 ks es ∧ fld (Str.ofString "kind") ks es = some d ∧ d.notGlob ∧ Q d := ⟨_, _, _, rfl, fld_kind, trivial, q⟩
theorem use_items {k : Str} {ds : List D} {a : D} {Q : D → Prop} (q : Q (.lst ds)) : ∃ ks es d, vec k ds a = .inst 250 ks es ∧ fld (Str.ofString "items") ks es = some d ∧ d.notGlob ∧ Q d := ⟨_, _, _, rfl, fld_items, trivial, q⟩
theorem use_attrs0 {k : Str} {ds : List D} {Q : D → Prop} (q : Q .none) : ∃ ks es d, vec k ds .none = .inst 250 ks es ∧ fld (Str.ofString "attrs") ks es = some d ∧ d.notGlob ∧ Q d := ⟨_, _, _, rfl, fld_attrs, trivial, q⟩
theorem use_attrs1 {k : Str} {ds : List D} {ks' : List Str} {ds' : List D} {Q : D → Prop} (q : Q (.dict ks' ds')) : ∃ ks es d, vec k ds (.dict ks' ds') = .inst 250 ks es ∧ fld (Str.ofString "attrs") ks es = some d ∧ d.notGlob ∧ Q d := ⟨_, _, _, rfl, fld_attrs, trivial, q⟩
local macro_rules | `(tactic| tb_rel) => `(tactic| first
  | (with_reducible apply use_kind)
  | (with_reducible apply use_items)
  | (with_reducible apply use_attrs0)
  | (with_reducible apply use_attrs1)
  | (with_reducible refine use_binB (eq_ss (by decide +kernel) (by decide +kernel)) ?_)
  | (with_reducible refine use_binB (ne_ss (by decide +kernel) (by decide +kernel)) ?_)
  | (with_reducible refine use_binB (notin_tup (by decide +kernel) (by decide +kernel) (by decide +kernel)) ?_)
  | ((with_reducible show ite ((_ == _) = true) _ _); first | rw [if_neg (by decide +kernel)] | rw [if_pos (by decide +kernel)])
  | ((with_reducible show ite ((!_) = true) _ _); first | rw [if_neg (by decide +kernel)] | rw [if_pos (by decide +kernel)]))
section
variable {C : Ctx} {σ : Store} {X : XP} {Q : D → Store → Prop}
theorem check_ok {k : Kd} {ds : List D} {a : D} (hf : 1 ≤ C.fuel) (q : Q .none σ) : CallD C (.ref 261) [vec k.str ds a] σ Q X := by
  refine call1 rfl rfl hf (fun _ _ => BindsTo.of_eq rfl) rfl (fun L' => ?_) rfl rfl rfl (by decide)
  cases k <;> (dsimp only [Kd.str]; repeat' tb_rel) <;> exact q
theorem check_bad {ds : List D} {a : D} (hf : 1 < C.fuel) (q : X "non-numeric argument to mathematical function" σ) : CallD C (.ref 261) [vec (Str.ofString "character") ds a] σ Q X := by
  refine call1 rfl rfl (by omega) (fun _ _ => BindsTo.of_eq rfl) rfl (fun L' => ?_) rfl rfl rfl (by decide)
  repeat' tb_rel
  exact q
end
end
section
/-- a whole number or none -/
def wi : Option Int → D
  | .none => .none
  | some i => .int i
def fi : Option Int → It
  | .none => none
  | some i => some (i, 1)
local macro_rules | `(tactic| tb_rel) => `(tactic| first
  | (with_reducible apply use_kind)
  | (with_reducible apply use_items)
  | (with_reducible apply use_attrs0)
  | (with_reducible apply use_attrs1)
  | (with_reducible refine use_binB (eq_ss (by decide +kernel) (by decide +kernel)) ?_)
  | (with_reducible refine use_binB (ne_ss (by decide +kernel) (by decide +kernel)) ?_)
  | (with_reducible refine use_binB (notin_tup (by decide +kernel) (by decide +kernel) (by decide +kernel)) ?_)
  | ((with_reducible show ite ((_ == _) = true) _ _); first | rw [if_neg (by decide +kernel)] | rw [if_pos (by decide +kernel)])
  | ((with_reducible show ite ((!_) = true) _ _); first | rw [if_neg (by decide +kernel)] | rw [if_pos (by decide +kernel)]))
section
variable {C : Ctx} {σ : Store} {X : XP} {Q : D → Store → Prop}
theorem doubles_dbl {xs : List D} {a : D} (hf : 1 ≤ C.fuel) (hl : xs.length ≤ 10000) (q : Q (.lst xs) σ) : CallD C (.ref 266) [vec Kd.dbl.str xs a] σ Q X := by
  refine call1 rfl rfl hf (fun _ _ => BindsTo.of_eq rfl) rfl (fun L' => ?_) rfl rfl rfl (by decide)
  dsimp only [Kd.str]
  repeat' tb_rel
  exact q
theorem doubles_whole {k : Kd} {is : List (Option Int)} {a : D} (hk : k ≠ .dbl) (hf : 2 ≤ C.fuel) (hl : is.length ≤ 1000) (q : Q (.lst ((is.map fi).map It.d)) σ) : CallD C (.ref 266) [vec k.str (is.map wi) a] σ Q X := by
  refine call1 rfl rfl (by omega) (fun _ _ => BindsTo.of_eq rfl) rfl (fun L' => ?_) rfl rfl rfl (by decide)
  cases k <;> first | exact absurd rfl hk | skip
  all_goals
    dsimp only [Kd.str]
    repeat' tb_rel
    refine ev_listc ⟨rfl, by decide, rfl, by decide, rfl, (fun p hp => nomatch hp), ⟨_, _, _, rfl, rfl, rfl⟩⟩ (fun _ => rfl) ?_
    repeat' tb_rel
    refine ⟨is.map wi, by rw [List.length_map]; exact hl, walk_lst, turns_map (ρ' := []) (fun d => some (match d with | .int i => (It.d (some (i, 1))) | d => d)) (Str.ofString "") (fun p hp => nomatch hp) (fun d hd new L Q' q' => ?_) ?_⟩
    · obtain ⟨o, _, rfl⟩ := List.mem_map.mp hd
      cases o <;> (dsimp only [wi, Got] at q' ⊢; repeat' tb_rel) <;> exact q'
    · rw [mapM_some]
      simp only [Gots, List.map_map] at q ⊢
      have : (fun d : D => (match d with | .int i => (It.d (some (i, 1))) | d => d)) ∘ wi = It.d ∘ fi := by
        funext o; cases o <;> rfl
      rw [this]
      exact q
end
end
end
theorem Kd.ok {k : Kd} : PyData.strOk k.str = true := by cases k <;> decide +kernel
theorem Nm.ok {n : Nm} : PyData.strOk n.str = true := by cases n <;> decide +kernel
theorem Kd.eqd {k : Kd} (h : k ≠ .dbl) : (k.str == Str.ofString "double") = false := by
  cases k <;> first | exact absurd rfl h | decide +kernel
theorem Kd.eqd1 : (Kd.dbl.str == Str.ofString "double") = true := by decide +kernel
theorem Nm.eqa {n : Nm} (h : n ≠ .abs) : (n.str == Str.ofString "abs") = false := by
  cases n <;> first | exact absurd rfl h | decide +kernel
theorem Nm.eqa1 : (Nm.abs.str == Str.ofString "abs") = true := by decide +kernel
local macro_rules | `(tactic| tb_rel) => `(tactic| first
  | (with_reducible apply use_kind)
  | (with_reducible apply use_items)
  | (with_reducible apply use_attrs0)
  | (with_reducible apply use_attrs1)
  | (with_reducible apply use_binB (eq_ss (by first | exact Nm.ok | exact Kd.ok | decide +kernel) (by decide +kernel)) ?_)
  | (with_reducible apply use_binB (ne_ss (by first | exact Nm.ok | exact Kd.ok | decide +kernel) (by decide +kernel)) ?_)
  | (with_reducible apply use_binB (notin_tup (by decide +kernel) (by decide +kernel) (by decide +kernel)) ?_)
  | ((with_reducible show ite ((_ == _) = true) _ _); first | rw [if_neg (by first | (rw [‹(_ == _) = false›]; decide) | decide +kernel)] | rw [if_pos (by first | assumption | decide +kernel)])
  | ((with_reducible show ite ((!_) = true) _ _); first | rw [if_neg (by first | (rw [‹(_ == _) = true›]; decide) | decide +kernel)] | rw [if_pos (by first | (rw [‹(_ == _) = false›]; rfl) | decide +kernel)])
  | fail "no such")
section
local macro_rules | `(tactic| tb_rel) => `(tactic| ((with_reducible show CallD _ _ _ _ _ _); first
    | with_reducible apply list_copy (by omega) ?_
    | with_reducible apply len_lst (by omega) ?_
    | with_reducible apply range1
    | with_reducible apply from_int_none (by ktr_room) ?_
    | with_reducible apply from_int_spec (by ktr_room) ?_
    | fail "no spec"))
/-- the further attributes: their names, and what each holds -/
abbrev At := Option (List (Str × List Str))
abbrev chars (ss : List Str) : D := vec (Str.ofString "character") (ss.map .str) .none
def At.d : At → D
  | none => .none
  | some l => .dict (l.map (·.1)) (l.map fun p => chars p.2)
def At.ok : At → Prop
  | none => True
  | some l => (l.map (·.1)).Nodup ∧ l.length ≤ 2 ∧ ∀ p ∈ l, p.2.length ≤ 10 ∧ D.plains (p.2.map .str) = true
/-- a store without two places -/
theorem del_back {σ : Store} {x dx : Addr} {o p : AObj} (hx : σ x = none) (hd : σ dx = none) : ((((σ.set dx o).set x p).del dx).del x) = σ := by
  funext b
  unfold Store.del Store.set
  by_cases h1 : b = x
  · rw [if_pos h1, h1, hx]
  · rw [if_neg h1]
    by_cases h2 : b = dx
    · rw [if_pos h2, h2, hd]
    · rw [if_neg h2, if_neg h1, if_neg h2]
theorem del_set {σ : Store} {x dx : Addr} {o : AObj} : (((σ.set dx o).del dx).del x) = ((σ.del dx).del x) := by
  funext b
  unfold Store.del Store.set
  by_cases h1 : b = x
  · rw [if_pos h1, if_pos h1]
  · rw [if_neg h1, if_neg h1]
    by_cases h2 : b = dx
    · rw [if_pos h2, if_pos h2]
    · rw [if_neg h2, if_neg h2, if_neg h2]
section
variable {C : Ctx} {σ : Store} {X : XP} {Q : D → Store → Prop}
theorem isnt_none_dict {ks : List Str} {ds : List D} : BinD C σ (compareOp .IsNot) (.dict ks ds) .none (.bool true) := isnot_n trivial
theorem keep_new {k k2 : Str} {ds ds2 : List D} {a : At} {x dx : Addr} (hf : 1 ≤ C.fuel) (ha : a.ok) (hne : x ≠ dx) (hx : σ x = none) (hd : σ dx = none) (q : Q (vec k2 ds2 a.d) σ) :
    CallD C (.ref 28) [vec k ds a.d, .mut x] ((σ.set dx (.dict vecK [.str k2, .lst ds2, .none, .bool false, .bool false])).set x (.inst 250 dx)) Q X := by
  have e1 : ((σ.set dx (.dict vecK [.str k2, .lst ds2, .none, .bool false, .bool false])).set x (.inst 250 dx)) x = some (.inst 250 dx) := Store.set_self
  have e2 : ((σ.set dx (.dict vecK [.str k2, .lst ds2, .none, .bool false, .bool false])).set x (.inst 250 dx)) dx = some (.dict vecK [.str k2, .lst ds2, .none, .bool false, .bool false]) := (Store.set_other hne.symm).trans Store.set_self
  refine call_frz_inst (call2 rfl rfl hf (fun _ _ _ => BindsTo.of_eq rfl) rfl rfl (fun L' => ?_) rfl rfl rfl (by decide))
  rcases a with _ | l <;> dsimp only [At.d, At.ok] at q ha ⊢
  · repeat' tb_rel
    exact ⟨x, 250, dx, _, _, rfl, e1, e2, by rw [del_back hx hd]; exact q⟩
  · have hl : l.length ≤ 2 := ha.2.1
    repeat' first | tb_rel | with_reducible refine use_binB isnt_none_dict ?_
    refine ex_setattr (.inr (.inr rfl)) (by tb_start) ?_
    repeat' first | tb_rel | with_reducible refine dict_copy ha.1 (by rw [List.length_map]; omega) ?_
    refine ⟨x, dx, _, _, rfl, e1, e2, by decide, ?_⟩
    repeat' tb_rel
    refine ⟨x, 250, dx, _, _, rfl, (Store.set_other hne).trans e1, Store.set_self, ?_⟩
    rw [del_set, del_back hx hd]
    exact q
end
end
section
local macro_rules | `(tactic| tb_rel) => `(tactic| ((with_reducible show CallD _ _ _ _ _ _); first
    | with_reducible apply list_copy (by omega) ?_
    | with_reducible apply len_lst (by first | omega | (rw [List.length_map]; omega)) ?_
    | with_reducible apply range1
    | with_reducible apply check_ok (by ktr_room) ?_
    | with_reducible apply keep_new (by ktr_room) (by assumption) (by assumption) (by assumption) (by assumption) ?_
    | with_reducible refine vector_call (by ktr_room) (fun _ _ _ _ _ => ?_)
    | fail "no spec"))
section
def absO : Option Int → Option Int
  | none => none
  | some i => some (if i < 0 then -i else i)
section
variable {C : Ctx} {σ : Store} {X : XP} {Q : D → Store → Prop}
theorem math1_abs {k : Kd} {is : List (Option Int)} {a : At} {dn : D} (hk : k ≠ .dbl) (hf : 4 ≤ C.fuel) (hl : is.length ≤ 1000) (ha : a.ok) (q : Q (vec (Str.ofString "integer") ((is.map absO).map wi) a.d) σ) : CallD C (.ref 320) [.str Nm.abs.str, vec k.str (is.map wi) a.d, dn] σ Q X := by
  have e1 := Nm.eqa1
  have e2 := Kd.eqd hk
  refine call3C rfl rfl (by omega) (fun _ _ _ _ => BindsTo.of_eq rfl) (fun _ => .inr ⟨rfl, rfl⟩) (fun _ => .inl rfl) (fun _ => .inl rfl) (fun L' => ?_) rfl rfl rfl (by decide)
  repeat' tb_rel
  refine ex_listc ⟨rfl, by decide, rfl, by decide, rfl, (fun p hp => nomatch hp), ⟨_, _, _, rfl, rfl, rfl⟩⟩ (fun _ => rfl) rfl rfl ?_
  repeat' tb_rel
  refine ⟨is.map wi, by rw [List.length_map]; exact hl, walk_lst, turns_map (ρ' := []) (fun d => some (match d with | .int i => .int (if i < 0 then -i else i) | d => d)) (Str.ofString "") (fun p hp => nomatch hp) (fun d hd new L Q' q' => ?_) ?_⟩
  · obtain ⟨o, _, rfl⟩ := List.mem_map.mp hd
    cases o <;> (dsimp only [wi, Got] at q' ⊢; repeat' tb_rel) <;> exact q'
  · rw [mapM_some]
    simp only [Gots, List.map_map] at q ⊢
    have : (fun d : D => (match d with | .int i => .int (if i < 0 then -i else i) | d => d)) ∘ wi = wi ∘ absO := by
      funext o; cases o <;> rfl
    rw [this]
    repeat' tb_rel
    exact q
end

end
section
/-- the item that a datum is -/
def itOf : D → It
  | .tup [.int n, .int d] => some (n, d)
  | _ => none
theorem itOf_d {x : It} : itOf x.d = x := by
  rcases x with _ | ⟨n, d⟩ <;> rfl
theorem mapM_it {f : It → Option It} : ∀ {xs : List It}, (xs.map It.d).mapM (fun d => (f (itOf d)).map It.d) = (xs.mapM f).map (·.map It.d)
  | [] => rfl
  | x :: xs => by
    rw [List.map_cons, List.mapM_cons, List.mapM_cons, mapM_it, itOf_d]
    cases f x with
    | none => rfl
    | some y => cases xs.mapM f <;> rfl
theorem mapM_length {α β : Type} {f : α → Option β} : ∀ {xs : List α} {ys : List β}, xs.mapM f = some ys → ys.length = xs.length
  | [], ys, h => by
    simp at h
    subst h; rfl
  | x :: xs, ys, h => by
    rw [List.mapM_cons] at h
    cases hx : f x with
    | none => rw [hx] at h; cases h
    | some y =>
      rw [hx] at h
      cases hy : xs.mapM f with
      | none => rw [hy] at h; cases h
      | some zs =>
        rw [hy] at h
        cases h
        simp [mapM_length hy]
def It.isNan : It → Bool
  | none => false
  | some (n, d) => decide (n = 0 ∧ d = 0)
/-- a mark made anew -/
def newNan (ys xs : List It) : Bool := (ys.zip xs).any fun p => p.1.isNan && !p.2.isNan
theorem rngs0 {n i : Nat} {d : D} (h : (rngs 0 n)[i]? = some d) : i < n ∧ d = .int i := by
  have hi : i < n := by
    have := List.getElem?_eq_some_iff.mp h
    obtain ⟨h1, _⟩ := this
    rw [rngs_length] at h1
    exact h1
  rw [rngs_get hi] at h
  cases h
  exact ⟨hi, by rw [Int.zero_add]⟩
section
variable {C : Ctx} {σ : Store} {X : XP} {Q : D → Store → Prop}
theorem is_nan_it {x : It} (hf : 1 ≤ C.fuel) (q : Q (.bool x.isNan) σ) : CallD C (.ref 99) [x.d] σ Q X := by
  rcases x with _ | ⟨n, d⟩
  · exact is_nan_none hf q
  · exact is_nan_tup hf q
set_option maxHeartbeats 2000000 in
theorem math1_gen {nm : Nm} {k : Kd} {ds : List D} {a : At} {n : Addr} {xs : List It} (hk : nm ≠ .abs ∨ k = .dbl) (hf : 7 ≤ C.fuel) (hl : xs.length ≤ 900) (ha : a.ok) (hs : ∀ x ∈ xs, Small x) (hn : σ n = some (.lst []))
    (hg : ∀ (C : Ctx) (σ : Store) (X : XP) (Q : D → Store → Prop), 2 ≤ C.fuel → Q (.lst (xs.map It.d)) σ → CallD C (.ref 266) [vec k.str ds a.d] σ Q X)
    (q : ∀ ys, xs.mapM (vMath nm) = some ys → Q (vec (Str.ofString "double") (ys.map It.d) a.d) (if newNan ys xs = true then σ.set n (.lst [.str (Str.ofString "NaNs produced")]) else σ))
    (q0 : xs.mapM (vMath nm) = none → X (Str.ofString "result is not exact") σ) :
    CallD C (.ref 320) [.str nm.str, vec k.str ds a.d, .mut n] σ Q X := by
  refine call3C rfl rfl (by omega) (fun _ _ _ _ => BindsTo.of_eq rfl) (fun _ => .inr ⟨rfl, rfl⟩) (fun _ => .inl rfl) (fun _ => .inl rfl) (fun L' => ?_) rfl rfl rfl (by decide)
  have rest : Exs (C.enter (envOfC (Str.ofString "math1") S320 L' 320 (.ref 319)) (ownOf (envOfC (Str.ofString "math1") S320 L' 320 (.ref 319))) (C.fuel - 1)) (envOfC (Str.ofString "math1") S320 L' 320 (.ref 319)) [(Str.ofString "notes", .mut n), (Str.ofString "v", vec k.str ds a.d), (Str.ofString "name", .str nm.str)] (List.drop 2 B320) σ (Back Q) X := by
    dsimp only [List.drop]
    repeat' first | tb_rel | with_reducible refine hg _ _ _ _ (by ktr_room) ?_
    refine ex_listc ⟨rfl, by decide, rfl, by decide, rfl, (by intro p hp; simp at hp; rcases hp with rfl; rfl), ⟨_, _, _, rfl, rfl, rfl⟩⟩ (fun _ => rfl) rfl rfl ?_
    repeat' tb_rel
    refine ⟨xs.map It.d, by rw [List.length_map]; omega, walk_lst, turns_map (ρ' := [(Str.ofString "name", .str nm.str)]) (fun d => (vMath nm (itOf d)).map It.d) (Str.ofString "result is not exact") (by intro p hp; simp at hp; rcases hp with rfl; exact ⟨rfl, .inl rfl, .inl rfl, rfl⟩) (fun d hd new L Q' q' => ?_) ?_⟩
    · obtain ⟨x, hx, rfl⟩ := List.mem_map.mp hd
      rw [itOf_d] at q'
      repeat' tb_rel
      refine math_item_spec (by ktr_room) (hs x hx) ?_
      cases hv : vMath nm x with
      | none => rw [hv] at q'; exact q'
      | some y => rw [hv] at q'; exact q'
    · rw [mapM_it]
      cases hm : xs.mapM (vMath nm) with
      | none => exact q0 hm
      | some ys =>
        have hlen := mapM_length hm
        have q := q ys hm
        dsimp only [Gots, Option.map]
        repeat' tb_rel
        let ρ₁ : Bool → Rho := fun b => [(Str.ofString "made", .bool b), (Str.ofString "found", .lst (ys.map It.d)), (Str.ofString "given", .lst (xs.map It.d)), (Str.ofString "notes", .mut n), (Str.ofString "v", vec k.str ds a.d)]
        refine ex_for (.inl rfl) ?_
        repeat' tb_rel
        refine ⟨rngs 0 xs.length, walk_rng (by rw [List.length_map]; omega) (by omega) (by rw [List.length_map]; omega), fun i ρ σ' => σ' = σ ∧ ρ = ρ₁ (newNan (ys.take i) (xs.take i)), ρ₁ false, ?_, ⟨rfl, rfl⟩, ?_, ?_⟩
        · intro p hp
          simp [ρ₁] at hp
          rcases hp with rfl | rfl | rfl | rfl | rfl <;> rfl
        · rintro i d I ρ σ' hd ⟨rfl, rfl⟩
          obtain ⟨hi, rfl⟩ := rngs0 hd
          obtain ⟨y, hy⟩ : ∃ y, ys[i]? = some y := ⟨ys[i], by simp [hlen, hi]⟩
          obtain ⟨x, hx⟩ : ∃ x, xs[i]? = some x := ⟨xs[i], by simp [hi]⟩
          have hy' : (ys.map It.d)[(i : Int).toNat]? = some y.d := by rw [Int.toNat_natCast, List.getElem?_map, hy]; rfl
          have hx' : (xs.map It.d)[(i : Int).toNat]? = some x.d := by rw [Int.toNat_natCast, List.getElem?_map, hx]; rfl
          have hstep : newNan (ys.take (i + 1)) (xs.take (i + 1)) = (newNan (ys.take i) (xs.take i) || (y.isNan && !x.isNan)) := by
            unfold newNan
            rw [List.take_add_one, List.take_add_one, hy, hx]
            show (List.zip (ys.take i ++ [y]) (xs.take i ++ [x])).any _ = _
            rw [List.zip_append (by simp [hlen])]
            simp
          have fin : ∀ (b : Bool) (ρ : Rho) {QQ : FD → Rho → Store → Prop}, b = newNan (ys.take (i + 1)) (xs.take (i + 1)) → Weak (ρ₁ b) ρ → Lap (fun ρ s => s = σ' ∧ ρ = ρ₁ (newNan (ys.take (i + 1)) (xs.take (i + 1)))) QQ .next ρ σ' := fun b ρ QQ hb hw => ⟨ρ₁ b, hw, rfl, by rw [hb]⟩
          dsimp only [ρ₁]
          repeat' first | tb_rel | with_reducible refine use_bin (sub_lst (by omega) (by omega) hy' (fun _ _ => rfl) (fun _ _ => rfl)) ?_ | with_reducible refine use_bin (sub_lst (by omega) (by omega) hx' (fun _ _ => rfl) (fun _ _ => rfl)) ?_ | with_reducible refine is_nan_it (by ktr_room) ?_ | with_reducible refine ite_b (fun _ => ?_) (fun _ => ?_)
          all_goals first
            | exact fin true _ (by rw [hstep, ‹y.isNan = true›, ‹x.isNan = false›]; simp) (by intro p hp; simp [ρ₁] at hp; rcases hp with rfl | rfl | rfl | rfl | rfl <;> rfl)
            | exact fin (newNan (ys.take i) (xs.take i)) _ (by rw [hstep, ‹y.isNan = true›, ‹x.isNan = true›]; simp) (by intro p hp; simp [ρ₁] at hp; rcases hp with rfl | rfl | rfl | rfl | rfl <;> rfl)
            | exact fin (newNan (ys.take i) (xs.take i)) _ (by rw [hstep, ‹y.isNan = false›]; simp) (by intro p hp; simp [ρ₁] at hp; rcases hp with rfl | rfl | rfl | rfl | rfl <;> rfl)
        · rintro ρ σ' ⟨rfl, rfl⟩
          rw [rngs_length, List.take_of_length_le (by omega), List.take_of_length_le (by omega)]
          dsimp only [ρ₁]
          repeat' first | tb_rel | with_reducible refine ite_b (fun _ => ?_) (fun _ => ?_)
          · rename_i hb
            rw [if_pos hb] at q
            refine ev_meth rfl rfl rfl rfl PySem.F.slot_list_append rfl ?_
            repeat' tb_rel
            refine ⟨n, _, rfl, hn, ?_⟩
            repeat' tb_rel
            refine ⟨_, _, meth_append hn (by simp), ?_⟩
            repeat' tb_rel
            exact q
          · rw [if_neg (by rw [‹newNan ys xs = false›]; decide)] at q
            exact q
  dsimp only [List.drop] at rest
  rcases hk with hk | rfl
  · have e1 := Nm.eqa hk
    repeat' first | with_reducible exact rest | tb_rel
  · have e2 := Kd.eqd1
    repeat' first | with_reducible exact rest | tb_rel | with_reducible refine ite_b (fun _ => ?_) (fun _ => ?_)
end

end
section
section
variable {C : Ctx} {σ : Store} {X : XP} {Q : D → Store → Prop}
theorem round_whole {k : Kd} {ds : List D} {a : At} {p : Int} (hk : k ≠ .dbl) (hp : 0 ≤ p) (hf : 4 ≤ C.fuel) (hl : ds.length ≤ 1000) (ha : a.ok) (q : Q (vec (Str.ofString "integer") ds a.d) σ) : CallD C (.ref 325) [vec k.str ds a.d, .int p] σ Q X := by
  have e2 := Kd.eqd hk
  refine call2C rfl rfl (by omega) (fun _ _ _ => BindsTo.of_eq rfl) (fun _ => .inl rfl) (fun _ => .inr ⟨rfl, rfl⟩) (fun L' => ?_) rfl rfl rfl (by decide)
  repeat' tb_rel
  exact q
theorem signif_whole {k : Kd} {ds : List D} {a : At} {p : Int} (hk : k ≠ .dbl) (hp : 10 ≤ p) (hf : 4 ≤ C.fuel) (hl : ds.length ≤ 1000) (ha : a.ok) (q : Q (vec (Str.ofString "integer") ds a.d) σ) : CallD C (.ref 330) [vec k.str ds a.d, .int p] σ Q X := by
  have e2 := Kd.eqd hk
  refine call2C rfl rfl (by omega) (fun _ _ _ => BindsTo.of_eq rfl) (fun _ => .inl rfl) (fun _ => .inr ⟨rfl, rfl⟩) (fun L' => ?_) rfl rfl rfl (by decide)
  repeat' tb_rel
  exact q
theorem map_it {f : It → It} {xs : List It} : (xs.map It.d).map (fun d => (f (itOf d)).d) = (xs.map f).map It.d := by
  rw [List.map_map, List.map_map]
  congr 1
  funext x
  show (f (itOf x.d)).d = _
  rw [itOf_d]
  rfl
theorem round_gen {k : Kd} {ds : List D} {a : At} {p : Int} {xs : List It} (hk : k = .dbl ∨ (k ≠ .dbl ∧ p < 0)) (hp : -13 ≤ p ∧ p ≤ 13) (hf : 7 ≤ C.fuel) (hl : xs.length ≤ 900) (ha : a.ok) (hs : ∀ x ∈ xs, Small x)
    (hg : ∀ (C : Ctx) (σ : Store) (X : XP) (Q : D → Store → Prop), 2 ≤ C.fuel → Q (.lst (xs.map It.d)) σ → CallD C (.ref 266) [vec k.str ds a.d] σ Q X)
    (q : Q (vec (Str.ofString "double") ((xs.map (vRound p)).map It.d) a.d) σ) : CallD C (.ref 325) [vec k.str ds a.d, .int p] σ Q X := by
  refine call2C rfl rfl (by omega) (fun _ _ _ => BindsTo.of_eq rfl) (fun _ => .inl rfl) (fun _ => .inr ⟨rfl, rfl⟩) (fun L' => ?_) rfl rfl rfl (by decide)
  have rest : Exs (C.enter (envOfC (Str.ofString "round_to") S325 L' 325 (.ref 324)) (ownOf (envOfC (Str.ofString "round_to") S325 L' 325 (.ref 324))) (C.fuel - 1)) (envOfC (Str.ofString "round_to") S325 L' 325 (.ref 324)) [(Str.ofString "places", .int p), (Str.ofString "v", vec k.str ds a.d)] (List.drop 2 B325) σ (Back Q) X := by
    dsimp only [List.drop]
    repeat' tb_rel
    refine ev_listc ⟨rfl, by decide, rfl, by decide, rfl, (by intro p hp; simp at hp; rcases hp with rfl; rfl), ⟨_, _, _, rfl, rfl, rfl⟩⟩ (fun _ => rfl) ?_
    repeat' first | tb_rel | with_reducible refine hg _ _ _ _ (by ktr_room) ?_
    refine ⟨xs.map It.d, by rw [List.length_map]; omega, walk_lst, turns_map (ρ' := [(Str.ofString "places", .int p)]) (fun d => some (vRound p (itOf d)).d) (Str.ofString "") (by intro p hp; simp at hp; rcases hp with rfl; exact ⟨rfl, .inl rfl, .inl rfl, rfl⟩) (fun d hd new L Q' q' => ?_) ?_⟩
    · obtain ⟨x, hx, rfl⟩ := List.mem_map.mp hd
      rw [itOf_d] at q'
      repeat' tb_rel
      exact rhe_spec (by ktr_room) (hs x hx) hp q'
    · rw [mapM_some, map_it]
      dsimp only [Gots]
      repeat' tb_rel
      exact q
  dsimp only [List.drop] at rest
  rcases hk with rfl | ⟨hk, hp0⟩
  · have e2 := Kd.eqd1
    repeat' first | with_reducible exact rest | tb_rel
  · have e2 := Kd.eqd hk
    repeat' first | with_reducible exact rest | tb_rel
theorem signif_gen {k : Kd} {ds : List D} {a : At} {p : Int} {xs : List It} (hk : k = .dbl ∨ (k ≠ .dbl ∧ p < 10)) (hp : 0 ≤ p ∧ p ≤ 11) (hf : 7 ≤ C.fuel) (hl : xs.length ≤ 900) (ha : a.ok) (hs : ∀ x ∈ xs, Small x)
    (hg : ∀ (C : Ctx) (σ : Store) (X : XP) (Q : D → Store → Prop), 2 ≤ C.fuel → Q (.lst (xs.map It.d)) σ → CallD C (.ref 266) [vec k.str ds a.d] σ Q X)
    (q : Q (vec (Str.ofString "double") ((xs.map (vSig p)).map It.d) a.d) σ) : CallD C (.ref 330) [vec k.str ds a.d, .int p] σ Q X := by
  refine call2C rfl rfl (by omega) (fun _ _ _ => BindsTo.of_eq rfl) (fun _ => .inl rfl) (fun _ => .inr ⟨rfl, rfl⟩) (fun L' => ?_) rfl rfl rfl (by decide)
  have rest : Exs (C.enter (envOfC (Str.ofString "signif_to") S330 L' 330 (.ref 329)) (ownOf (envOfC (Str.ofString "signif_to") S330 L' 330 (.ref 329))) (C.fuel - 1)) (envOfC (Str.ofString "signif_to") S330 L' 330 (.ref 329)) [(Str.ofString "digits", .int p), (Str.ofString "v", vec k.str ds a.d)] (List.drop 2 B330) σ (Back Q) X := by
    dsimp only [List.drop]
    repeat' tb_rel
    refine ev_listc ⟨rfl, by decide, rfl, by decide, rfl, (by intro p hp; simp at hp; rcases hp with rfl; rfl), ⟨_, _, _, rfl, rfl, rfl⟩⟩ (fun _ => rfl) ?_
    repeat' first | tb_rel | with_reducible refine hg _ _ _ _ (by ktr_room) ?_
    refine ⟨xs.map It.d, by rw [List.length_map]; omega, walk_lst, turns_map (ρ' := [(Str.ofString "digits", .int p)]) (fun d => some (vSig p (itOf d)).d) (Str.ofString "") (by intro p hp; simp at hp; rcases hp with rfl; exact ⟨rfl, .inl rfl, .inl rfl, rfl⟩) (fun d hd new L Q' q' => ?_) ?_⟩
    · obtain ⟨x, hx, rfl⟩ := List.mem_map.mp hd
      rw [itOf_d] at q'
      repeat' tb_rel
      exact sig_spec (by ktr_room) (hs x hx) hp q'
    · rw [mapM_some, map_it]
      dsimp only [Gots]
      repeat' tb_rel
      exact q
  dsimp only [List.drop] at rest
  rcases hk with rfl | ⟨hk, hp0⟩
  · have e2 := Kd.eqd1
    repeat' first | with_reducible exact rest | tb_rel
  · have e2 := Kd.eqd hk
    repeat' first | with_reducible exact rest | tb_rel
/-- the words of a vector that is none of numbers -/
theorem math1_bad {n : D} {nm : Str} {ds : List D} {a : D} (hf : 4 ≤ C.fuel) (q : X (Str.ofString "non-numeric argument to mathematical function") σ) : CallD C (.ref 320) [.str nm, vec (Str.ofString "character") ds a, n] σ Q X := by
  refine call3C rfl rfl (by omega) (fun _ _ _ _ => BindsTo.of_eq rfl) (fun _ => .inr ⟨rfl, rfl⟩) (fun _ => .inl rfl) (fun _ => .inl rfl) (fun L' => ?_) rfl rfl rfl (by decide)
  repeat' first | tb_rel | with_reducible refine check_bad (by ktr_room) ?_
  exact q
theorem round_bad {p : D} {ds : List D} {a : D} (hf : 4 ≤ C.fuel) (q : X (Str.ofString "non-numeric argument to mathematical function") σ) : CallD C (.ref 325) [vec (Str.ofString "character") ds a, p] σ Q X := by
  refine call2C rfl rfl (by omega) (fun _ _ _ => BindsTo.of_eq rfl) (fun _ => .inl rfl) (fun _ => .inr ⟨rfl, rfl⟩) (fun L' => ?_) rfl rfl rfl (by decide)
  repeat' first | tb_rel | with_reducible refine check_bad (by ktr_room) ?_
  exact q
end

end
section
def RowS (σ₀ : Store) (a : Addr) (σ : Store) : Prop := ∃ is : List Int, σ a = some (.lst (is.map .int)) ∧ is.length ≤ 2000 ∧ (∀ i ∈ is, 0 ≤ i ∧ i < 1024) ∧ ∀ b o, b ≠ a → σ₀ b = some o → σ b = some o
theorem plains_ints : ∀ {is : List Int}, D.plains (is.map .int) = true
  | [] => rfl
  | i :: is => by simp [D.plains, D.plain, plains_ints]
theorem depth_ints : ∀ {is : List Int}, PyData.depthAll (D.pys (is.map .int)) ≤ 1
  | [] => by simp [D.pys, PyData.depthAll]
  | i :: is => by
    have := depth_ints (is := is)
    simp only [List.map_cons, D.pys, D.py, PyData.depthAll, PyData.depth]
    omega
theorem depth_ints' {is : List Int} : (D.lst (is.map .int)).py.depth ≤ 64 := by
  have := depth_ints (is := is)
  simp only [D.py, PyData.depth]
  omega
theorem eqv_nil {ds : List D} : PyData.eqv (D.lst ds).py (D.lst []).py = ds.isEmpty := by
  cases ds <;> simp [D.py, D.pys, PyData.eqv, PyData.eqvAll]
section
variable {C : Ctx} {σ : Store} {X : XP} {Q : D → Store → Prop}
theorem next_spec {σ₀ : Store} {a : Addr} (hf : 1 ≤ C.fuel) (hr : RowS σ₀ a σ) (q : ∀ i σ', 0 ≤ i → i < 1024 → RowS σ₀ a σ' → Q (.int i) σ') : CallD C (.ref 344) [.mut a] σ Q X := by
  obtain ⟨is, h1, h2, h3, h4⟩ := id hr
  refine call1 rfl rfl (by omega) (fun _ _ => BindsTo.of_eq rfl) rfl (fun L' => ?_) rfl rfl rfl (by decide)
  repeat' first | tb_rel | with_reducible refine use_binB (ne_ml h1 plains_ints rfl depth_ints' (by decide)) ?_
  rw [eqv_nil]
  rcases List.eq_nil_or_concat is with rfl | ⟨is', i, rfl⟩
  · rw [if_pos (by simp)]
    repeat' tb_rel
    exact q 0 σ (by omega) (by omega) hr
  · rw [List.concat_eq_append] at h1 h2 h3 ⊢
    rw [if_neg (by simp)]
    refine ev_meth rfl rfl rfl rfl PySem.F.slot_list_pop rfl ?_
    repeat' tb_rel
    refine ⟨a, _, rfl, h1, ?_⟩
    repeat' tb_rel
    have hi := h3 i (by simp)
    refine ⟨_, _, meth_pop (lds := is'.map .int) (d := .int i) (by rw [h1]; simp) (by simp at h2 ⊢; omega), ?_⟩
    repeat' tb_rel
    refine q i _ hi.1 hi.2 ⟨is', Store.set_self, by simp at h2; omega, fun j hj => h3 j (by simp [hj]), fun b o hb hs => (Store.set_other hb).trans (h4 b o hb hs)⟩
theorem reduced_spec {n d : Int} (hf : 1 ≤ C.fuel) (hd : 0 < d) (hs : d < 2 ^ 62) (q : Q (It.d (some (red n d))) σ) : CallD C (.ref 351) [.int n, .int d] σ Q X := by
  refine call2 rfl rfl hf (fun _ _ _ => BindsTo.of_eq rfl) rfl rfl (fun L' => ?_) rfl rfl rfl (by decide)
  have hm : 0 ≤ (if n < 0 then -n else n) := by split <;> omega
  have hg := gcd_pos (n := if n < 0 then -n else n) hd
  have he : (Int.gcd (if n < 0 then -n else n) d : Int) = Int.gcd n d := by rw [gcd_ite]
  unfold red at q
  dsimp only [It.d] at q
  rw [← he] at q
  repeat' tb_rel
  generalize (if n < 0 then -n else n) = m at *
  refine ex_while (fun k ρ σ' => σ' = σ ∧ ∃ x y : Int, ρ = [(Str.ofString "n", .int n), (Str.ofString "d", .int d), (Str.ofString "a", .int x), (Str.ofString "b", .int y)] ∧ 0 ≤ x ∧ 0 ≤ y ∧ k = y.toNat ∧ Int.gcd x y = Int.gcd m d) (ρ₀ := [(Str.ofString "n", .int n), (Str.ofString "d", .int d), (Str.ofString "a", .int m), (Str.ofString "b", .int d)]) (n := d.toNat) ?_ ⟨rfl, m, d, rfl, hm, by omega, rfl, rfl⟩ ?_
  · intro p hp
    simp at hp
    rcases hp with rfl | rfl | rfl | rfl <;> rfl
  · rintro k ρ σ' ⟨rfl, x, y, rfl, hx, hy, rfl, hg'⟩
    repeat' tb_rel
    · rename_i h0
      refine ⟨(x % y).toNat, ?_, [(Str.ofString "n", .int n), (Str.ofString "d", .int d), (Str.ofString "a", .int y), (Str.ofString "b", .int (x % y))], ?_, rfl, _, _, rfl, hy, ?_, rfl, ?_⟩
      · have h1 := Int.emod_lt_of_pos x h0
        have h2 := Int.emod_nonneg x (by omega : y ≠ 0)
        omega
      · intro p hp
        simp at hp
        rcases hp with rfl | rfl | rfl | rfl <;> rfl
      · exact Int.emod_nonneg x (by omega)
      · rw [← hg', gcd_step hx hy]
    · rename_i h0
      have hy0 : y = 0 := by omega
      subst hy0
      have : (Int.gcd x 0 : Int) = x := by rw [Int.gcd_zero_right]; omega
      rw [← hg', this] at q hg
      repeat' tb_rel
      exact q
end

end
section
section
variable {C : Ctx} {σ : Store} {X : XP} {Q : D → Store → Prop}
theorem int_of_mem {is : List Int} {i : Nat} {d : D} {k : Nat} (h : ((is.map D.int).take k)[i]? = some d) : ∃ j, d = .int j := by
  have := List.mem_of_mem_take (List.mem_of_getElem? h)
  obtain ⟨j, _, rfl⟩ := List.mem_map.mp this
  exact ⟨j, rfl⟩
theorem ints_all {P : Params} {V : View} : ∀ {vs : List Value} {is : List Int}, IntsAre vs is → RpAll P V vs (is.map .int)
  | _, _, .nil => .nil
  | _, _, .cons n t r => .cons (.int n t) (ints_all r)
/-- a slice of a list that was there before the call -/
theorem ev_sliceG {env : Env} {ρ : Rho} {e : Expr} {k : Int} {kk : Nat} {p1 p2 pos : Pos} (hk : 0 ≤ k) (ht : ∀ o r, letTemporaryGo e o r = pure ())
    (h : Ev C env ρ e σ (fun a σ₁ => ∃ (ax : Addr) (vs : List Value) (is : List Int), a = .glob (.ref ax) ∧ C.base.IsList ax vs.toArray ∧ IntsAre vs is ∧ is.length ≤ 10000 ∧ Q (.lst ((is.map .int).take k.toNat)) σ₁) X) : Ev C env ρ (.Subscript e (.Slice none (some (.Constant (.int k) kk p1)) none p2) pos) σ Q X := by
  refine ⟨fun s g en => ?_⟩
  refine wpAny_Subscript_list_slice (Jd.seq g en (.refl s) (.refl g.hσ g.ok.hids) (h.mono (fun a σ₁ q => ?_) fun _ _ x => x)) ht
  obtain ⟨ax, vs, is, rfl, hl, hi, hlen, q⟩ := q
  intro v s₁ u₁ g₁ e₁ st₁ _ r
  cases r
  have hr : RpAll C.w.params (vw C.hid σ₁ s₁.heap) vs (is.map .int) := ints_all hi
  refine wpAny_evalPart_none (evalPart_int fun tk => ⟨ax, vs.toArray, none, some k, rfl, hl.at fun o e => g₁.stays _ _ e, ?_, .none, .int _ _, ?_⟩)
  · have := hr.length
    rw [List.length_map] at this
    rw [List.size_toArray]
    exact Nat.le_trans (show vs.length ≤ 10000 by omega) (by decide)
  · rw [pick_upto _ hk]
    have k1 : ∀ b o, s₁.heap.get? b = some o → ((s₁.heap.push { cls := .type "slice", data := .fields #[.none, .int k tk, .none] }).push { cls := .type "list", data := .seq (vs.toArray.toList.take k.toNat).toArray }).get? b = some o := fun b o e => Heap.get?_push_of_some _ (Heap.get?_push_of_some _ e)
    have hn : s₁.heap.get? (s₁.heap.objs.size + 1) = none := Heap.get?_none_of_le (Nat.le_succ _)
    refine ⟨_, σ₁, u₁.trans .mk', g₁.keep k1, st₁.trans (Stp.ofKeep g₁.hσ g₁.ok.hids k1), .lst (n := 0) (g₁.fresh_view hn (by heap_get)) ((hr.take k.toNat).mono (g₁.view_keep k1)), q⟩
def RowN (σ₀ : Store) (a : Addr) (n : Nat) (σ : Store) : Prop := ∃ is : List Int, σ a = some (.lst (is.map .int)) ∧ is.length ≤ n ∧ (∀ i ∈ is, 0 ≤ i ∧ i < 1024) ∧ ∀ b o, b ≠ a → σ₀ b = some o → σ b = some o
theorem RowN.push {σ₀ σ : Store} {a : Addr} {n : Nat} (h : RowN σ₀ a n σ) {i : Int} (h0 : 0 ≤ i) (h1 : i < 1024) : ∃ lds, σ a = some (.lst lds) ∧ lds.length ≤ n ∧ RowN σ₀ a (n + 1) (σ.set a (.lst (lds ++ [.int i]))) := by
  obtain ⟨is, a1, a2, a3, a4⟩ := h
  refine ⟨_, a1, by rw [List.length_map]; exact a2, is ++ [i], by rw [List.map_append]; exact Store.set_self, by simp; omega, fun j hj => ?_, fun b o hb hs => (Store.set_other hb).trans (a4 b o hb hs)⟩
  rcases List.mem_append.mp hj with hj | hj
  · exact a3 j hj
  · rw [List.mem_singleton.mp hj]; exact ⟨h0, h1⟩
theorem RowN.le {σ₀ σ : Store} {a : Addr} {n m : Nat} (h : RowN σ₀ a n σ) (hm : n ≤ m) : RowN σ₀ a m σ := by
  obtain ⟨is, a1, a2, a3, a4⟩ := h
  exact ⟨is, a1, by omega, a3, a4⟩
set_option maxHeartbeats 1000000 in
theorem row_spec {is : List Int} {ax : Addr} {vs : List Value} (hb : C.base.IsList ax vs.toArray) (hi : IntsAre vs is) (hf : 1 ≤ C.fuel) (hl : is.length ≤ 100) (q : ∀ a σ', RowS σ a σ' → σ a = none → Q (.mut a) σ') : CallD C (.ref 337) [.glob (.ref ax)] σ Q X := by
  refine call1 rfl rfl (by omega) (fun _ _ => BindsTo.of_eq rfl) rfl (fun L' => ?_) rfl rfl rfl (by decide)
  refine ex_cons (ex_assign (.inl rfl) (ev_listM fun r hr => ?_) rfl)
  repeat' tb_rel
  refine ex_for (.inl rfl) ?_
  refine ev_sliceG (by decide) (fun _ _ => rfl) ?_
  repeat' tb_rel
  refine ⟨ax, vs, is, rfl, hb, hi, by omega, ?_⟩
  refine ⟨_, walk_lst, fun i ρ σ' => ρ = [(Str.ofString "row", .mut r)] ∧ RowN σ r (31 * i) σ', [(Str.ofString "row", .mut r)], ?_, ⟨rfl, [], Store.set_self, Nat.zero_le _, (fun _ h => nomatch h), fun b o hb hs => (Store.set_other hb).trans hs⟩, ?_, ?_⟩
  · intro p hp
    simp at hp
    rcases hp with rfl; rfl
  · rintro i d I ρ σ' hd ⟨rfl, hR⟩
    obtain ⟨j, rfl⟩ := int_of_mem hd
    have hi : i < 40 := by
      have := List.getElem?_eq_some_iff.mp hd
      obtain ⟨h1, _⟩ := this
      rw [List.length_take] at h1
      exact Nat.lt_of_lt_of_le h1 (Nat.min_le_left _ _)
    have turn : ∀ f : Int, 0 ≤ f → ∃ lds, σ' r = some (.lst lds) ∧ lds.length ≤ 31 * i ∧ RowN σ r (31 * i + 1) (σ'.set r (.lst (lds ++ [.int (f % 1024)]))) := fun f hf => hR.push (Int.emod_nonneg f (by decide)) (Int.emod_lt_of_pos f (by decide))
    have fig : ∃ f : Int, 0 ≤ f ∧ f = (if 0 ≤ j then j else 7 - j) := ⟨_, by split <;> omega, rfl⟩
    obtain ⟨f, hf0, hfj⟩ := fig
    obtain ⟨lds, e1, e2, hR'⟩ := turn f hf0
    refine ex_cons (ex_assign (.inl rfl) (Q := After _ _ _ _ _) (Jd.mono (Q := fun d s => d = .int f ∧ s = σ') ?_ ?_ fun _ _ x => x) rfl)
    · repeat' tb_rel
      · rename_i h
        rw [if_pos h] at hfj
        exact ⟨by rw [hfj], rfl⟩
      · rename_i h
        rw [if_neg h] at hfj
        exact ⟨by rw [hfj], rfl⟩
    rintro d s ⟨rfl, rfl⟩
    repeat' tb_rel
    refine ev_meth rfl rfl rfl rfl PySem.F.slot_list_append rfl ?_
    repeat' tb_rel
    refine ⟨r, _, rfl, e1, ?_⟩
    repeat' tb_rel
    refine ⟨_, _, meth_append e1 (by omega), ?_⟩
    repeat' tb_rel
    refine ex_for (.inl rfl) ?_
    repeat' tb_rel
    refine ⟨rngs 0 30, walk_rng (by decide) (by omega) (by omega), fun k ρ σ' => ∃ f : Int, 0 ≤ f ∧ ρ = [(Str.ofString "figure", .int f), (Str.ofString "row", .mut r)] ∧ RowN σ r (31 * i + 1 + k) σ', [(Str.ofString "figure", .int (f / 1024)), (Str.ofString "row", .mut r)], ?_, ⟨_, Int.ediv_nonneg hf0 (by decide), rfl, hR'⟩, ?_, ?_⟩
    · intro p hp
      simp at hp
      rcases hp with rfl | rfl <;> rfl
    · rintro k d2 I2 ρ σ2 hd2 ⟨g, hg0, rfl, hR2⟩
      obtain ⟨hk, rfl⟩ := rngs0 hd2
      obtain ⟨lds2, e3, e4, hR3⟩ := hR2.push (i := g % 1024) (Int.emod_nonneg g (by decide)) (Int.emod_lt_of_pos g (by decide))
      repeat' tb_rel
      · refine ev_meth rfl rfl rfl rfl PySem.F.slot_list_append rfl ?_
        repeat' tb_rel
        refine ⟨r, _, rfl, e3, ?_⟩
        repeat' tb_rel
        refine ⟨_, _, meth_append e3 (by omega), ?_⟩
        repeat' tb_rel
        refine ⟨[(Str.ofString "figure", .int (g / 1024)), (Str.ofString "row", .mut r)], ?_, _, Int.ediv_nonneg hg0 (by decide), rfl, hR3⟩
        intro p hp
        simp at hp
        rcases hp with rfl | rfl <;> rfl
      · refine ⟨[(Str.ofString "figure", .int g), (Str.ofString "row", .mut r)], ?_, _, hg0, rfl, hR2.le (by omega)⟩
        intro p hp
        simp at hp
        rcases hp with rfl | rfl <;> rfl
    · rintro ρ σ3 ⟨g, hg0, rfl, hR3⟩
      repeat' tb_rel
      refine ⟨[(Str.ofString "row", .mut r)], ?_, rfl, hR3.le (by rw [rngs_length]; omega)⟩
      intro p hp
      simp at hp
      rcases hp with rfl; rfl
  · rintro ρ σ' ⟨rfl, is', b1, b2, b3, b4⟩
    have hlen : is'.length ≤ 1240 := by
      rw [List.length_take] at b2
      have := Nat.min_le_left 40 (is.map D.int).length
      omega
    refine after_next (ex_cons (ex_assign (.inl rfl) (ev_sliceM (by decide) (fun _ _ => rfl) ?_) rfl))
    repeat' tb_rel
    refine ⟨r, _, rfl, b1, by rw [List.length_map]; omega, fun c hc hcn => ?_⟩
    repeat' tb_rel
    refine ev_meth rfl rfl rfl rfl PySem.F.slot_list_reverse rfl ?_
    repeat' tb_rel
    refine ⟨c, _, rfl, Store.set_self, ?_⟩
    repeat' tb_rel
    refine ⟨_, _, meth_reverse Store.set_self (by rw [List.length_take]; have := Nat.min_le_left (160 : Int).toNat (is'.map D.int).length; omega), ?_⟩
    repeat' tb_rel
    refine q c _ ⟨(is'.take 160).reverse, by rw [List.map_reverse, List.map_take]; exact Store.set_self, by rw [List.length_reverse, List.length_take]; omega, fun j hj => b3 j (List.mem_of_mem_take (List.mem_reverse.mp hj)), fun b o hb hs => ?_⟩ ?_
    · rw [Store.set_other hb, Store.set_other hb]
      by_cases z : b = r
      · rw [z, hr] at hs; cases hs
      · exact b4 b o z hs
    · cases z : σ c with
      | none => rfl
      | some o => rw [b4 c o hc z] at hcn; cases hcn
end

end
section
/-- what the law draws for an item -/
def Good : It → Prop
  | none => True
  | some (n, d) => 0 ≤ d ∧ d < 169 ∧ -484 < n ∧ n < 484 ∧ (d = 0 → n = 0 ∨ n = 1 ∨ n = -1) ∧ (d ≠ 0 → n = 0 → d = 1)
theorem Good.small {x : It} (h : Good x) : Small x := by
  rcases x with _ | ⟨n, d⟩
  · trivial
  · exact ⟨h.1, h.2.1, h.2.2.1, h.2.2.2.1⟩
theorem good_red {n d : Int} (hd : 0 < d) (hd2 : d < 169) (hn : -484 < n) (hn2 : n < 484) : Good (some (red n d)) := by
  unfold red
  obtain ⟨g1, g2⟩ := gcd_pos (n := n) hd
  have d1 : (Int.gcd n d : Int) ∣ n := Int.gcd_dvd_left n d
  have d2 : (Int.gcd n d : Int) ∣ d := Int.gcd_dvd_right n d
  have hz : n = 0 → (Int.gcd n d : Int) = d := fun h => by rw [h, Int.gcd_zero_left]; omega
  generalize (Int.gcd n d : Int) = g at *
  obtain ⟨u, rfl⟩ := d1
  obtain ⟨v, rfl⟩ := d2
  rw [Int.mul_ediv_cancel_left _ (by omega), Int.mul_ediv_cancel_left _ (by omega)]
  have hv : 0 < v := by
    rcases Int.lt_or_le 0 v with h | h
    · exact h
    · have := Int.mul_nonpos_of_nonneg_of_nonpos (show 0 ≤ g by omega) h
      omega
  have hv2 : v ≤ g * v := by
    have := Int.mul_le_mul_of_nonneg_right (show 1 ≤ g by omega) (show 0 ≤ v by omega)
    omega
  have hu : -484 < u ∧ u < 484 := by
    rcases Int.le_total 0 u with h | h
    · have := Int.mul_le_mul_of_nonneg_right (show 1 ≤ g by omega) h
      omega
    · have := Int.mul_le_mul_of_nonpos_right (show 1 ≤ g by omega) h
      omega
  refine ⟨by omega, by omega, hu.1, hu.2, fun h => by omega, fun _ h => ?_⟩
  subst h
  have := hz (by simp)
  have h3 : g * v = g * 1 := by omega
  exact Int.eq_of_mul_eq_mul_left (by omega) h3
section
variable {C : Ctx} {σ : Store} {X : XP} {Q : D → Store → Prop}
theorem sub_lstR {value slice : Expr} {ds : List D} {i : Int} {d : D} (h0 : 0 ≤ i) (hi : i < 10000) (hd : ds[i.toNat]? = some d) (hs : ∀ t u, subscripted slice false (.ref t) (.int i u) = operate [.ref t, .int i u] (getItem (.ref t) (.int i u))) : BinD C σ (subscriptTail value slice) (.lst ds) (.int i) d := by
  refine ⟨fun s va vb g ra rb => ?_⟩
  cases rb
  cases ra with
  | lst he hr =>
    obtain ⟨v, hv, r⟩ := hr.get hd
    exact Pure1.here fun Q E k => item_listR ⟨_, (vw_some.mp he).2.2, rfl, _, rfl⟩ h0 (by omega) (by simpa using hv) (k v s.toks r) (hs _ _)
theorem use_subm {value slice : Expr} {ds : List D} {i : Int} {Q : D → Prop} (h0 : 0 ≤ i) (h1 : i < ds.length) (hl : ds.length ≤ 900) (hs : ∀ t u, subscripted slice false (.ref t) (.int i u) = operate [.ref t, .int i u] (getItem (.ref t) (.int i u)))
    (q : ∀ d, d ∈ ds → Q d) : ∃ d, BinD C σ (subscriptTail value slice) (.lst ds) (.int i) d ∧ Q d := by
  have h2 : i.toNat < ds.length := by omega
  exact ⟨_, sub_lstR h0 (by omega) (List.getElem?_eq_getElem h2) hs, q _ (List.getElem_mem h2)⟩
theorem prod_bound {a b m n : Int} (ha : 0 ≤ a) (hb : 0 ≤ b) (h1 : a ≤ m) (h2 : b ≤ n) : 0 ≤ a * b ∧ a * b ≤ m * n := ⟨Int.mul_nonneg ha hb, Int.mul_le_mul h1 h2 hb (by omega)⟩
theorem item_spec {σ₀ : Store} {a : Addr} (hf : 2 ≤ C.fuel) (hr : RowS σ₀ a σ) (q : ∀ (x : It) σ', Good x → RowS σ₀ a σ' → Q x.d σ') : CallD C (.ref 370) [.mut a] σ Q X := by
  refine call1 rfl rfl (by omega) (fun _ _ => BindsTo.of_eq rfl) rfl (fun L' => ?_) rfl rfl rfl (by decide)
  repeat' first | tb_rel | with_reducible refine next_spec (by ktr_room) (by assumption) (fun _ _ _ _ _ => ?_)
  · refine use_subm (by omega) (by simp only [List.length]; omega) (by simp only [List.length]; omega) (fun _ _ => rfl) (fun d hd => ?_)
    have hd' : ∃ x : It, Good x ∧ d = x.d := by
      simp only [List.mem_cons, List.not_mem_nil, or_false] at hd
      rcases hd with rfl | rfl
      · exact ⟨some (1, 0), by simp [Good], rfl⟩
      · exact ⟨some (-1, 0), by simp [Good], rfl⟩
    obtain ⟨x, hx, rfl⟩ := hd'
    repeat' tb_rel
    refine use_subm (by omega) (by simp only [List.length]; omega) (by simp only [List.length]; omega) (fun _ _ => rfl) (fun d hd => ?_)
    have hd' : ∃ x : It, Good x ∧ d = x.d := by
      simp only [List.mem_cons, List.not_mem_nil, or_false] at hd
      rcases hd with rfl | rfl | rfl | rfl
      · exact ⟨some (0, 1), by simp [Good], rfl⟩
      · exact ⟨none, trivial, rfl⟩
      · exact ⟨some (0, 0), by simp [Good], rfl⟩
      · exact ⟨x, hx, rfl⟩
    obtain ⟨y, hy, rfl⟩ := hd'
    repeat' tb_rel
    exact q y _ hy (by assumption)
  · rename_i i1 s1 _ _ _ i2 s2 b1 b2 b3
    have p1 := prod_bound (a := i1 % 20) (b := i1 % 20) (m := 19) (n := 19) (by omega) (by omega) (by omega) (by omega)
    have p2 := prod_bound (a := i2 % 12) (b := i2 % 12) (m := 11) (n := 11) (by omega) (by omega) (by omega) (by omega)
    have p3 : (1 + i2 % 12) * (1 + i2 % 12) = i2 % 12 * (i2 % 12) + 2 * (i2 % 12) + 1 := by grind
    have p4 : 0 < (1 + i2 % 12) * (1 + i2 % 12) ∧ (1 + i2 % 12) * (1 + i2 % 12) < 169 := by omega
    refine reduced_spec (by ktr_room) p4.1 (by omega) ?_
    exact q _ _ (good_red p4.1 p4.2 (by omega) (by omega)) b3
  · exact q (some (_, 1)) _ ⟨by omega, by omega, by omega, by omega, by omega, fun _ _ => rfl⟩ (by assumption)
  · rename_i b3
    refine reduced_spec (by ktr_room) (by omega) (by omega) ?_
    exact q _ _ (good_red (by omega) (by omega) (by omega) (by omega)) b3
end

end
end
section
local macro_rules | `(tactic| tb_rel) => `(tactic| ((with_reducible show CallD _ _ _ _ _ _); first
    | with_reducible apply list_copy (by omega) ?_
    | with_reducible apply len_lst (by first | omega | (simp only [List.length_map]; omega)) ?_
    | with_reducible apply range1
    | fail "no spec"))
section
/-- a vector that the law draws: its kind, its items, the items as fractions -/
inductive Drawn : Kd → List D → List It → Prop
  | whole {k : Kd} {is : List (Option Int)} : k ≠ .dbl → is.length ≤ 5 → (∀ i, some i ∈ is → -451 < i ∧ i < 451) → Drawn k (is.map wi) (is.map fi)
  | dbl {xs : List It} : xs.length ≤ 5 → (∀ x ∈ xs, Good x) → Drawn .dbl (xs.map It.d) xs
theorem Drawn.len {k : Kd} {ds : List D} {xs : List It} (h : Drawn k ds xs) : ds.length ≤ 5 ∧ xs.length ≤ 5 := by
  cases h with
  | whole _ h _ => simp [h]
  | dbl h _ => simp [h]
theorem Drawn.good {k : Kd} {ds : List D} {xs : List It} (h : Drawn k ds xs) : ∀ x ∈ xs, Good x := by
  cases h with
  | whole hk h hb =>
    intro x hx
    obtain ⟨o, ho, rfl⟩ := List.mem_map.mp hx
    cases o with
    | none => trivial
    | some i =>
      have := hb i ho
      exact ⟨by omega, by omega, by omega, by omega, by omega, fun _ _ => rfl⟩
  | dbl _ h => exact h
theorem RowS.self {σ₀ σ : Store} {a : Addr} (h : RowS σ₀ a σ) : RowS σ a σ := by
  obtain ⟨is, h1, h2, h3, h4⟩ := h
  exact ⟨is, h1, h2, h3, fun b o _ e => e⟩
theorem RowS.trans {σ₀ σ σ' : Store} {a : Addr} (h : RowS σ₀ a σ) (k : RowS σ a σ') : RowS σ₀ a σ' := by
  obtain ⟨is, h1, h2, h3, h4⟩ := h
  obtain ⟨js, k1, k2, k3, k4⟩ := k
  exact ⟨js, k1, k2, k3, fun b o hb e => k4 b o hb (h4 b o hb e)⟩
theorem RowS.fresh {σ₀ σ : Store} {a b : Addr} (h : RowS σ₀ a σ) (hb : σ b = none) : σ₀ b = none ∧ b ≠ a := by
  obtain ⟨is, h1, h2, h3, h4⟩ := h
  have hne : b ≠ a := fun z => by rw [z, h1] at hb; cases hb
  refine ⟨?_, hne⟩
  cases z : σ₀ b with
  | none => rfl
  | some o => rw [h4 b o hne z] at hb; cases hb
theorem RowS.put {σ₀ σ : Store} {a b : Addr} {o : AObj} (h : RowS σ₀ a σ) (hb : σ₀ b = none ∧ b ≠ a) : RowS σ₀ a (σ.set b o) := by
  obtain ⟨is, h1, h2, h3, h4⟩ := h
  refine ⟨is, (Store.set_other hb.2.symm).trans h1, h2, h3, fun c p hc e => (Store.set_other fun z => by rw [z, hb.1] at e; cases e).trans (h4 c p hc e)⟩
theorem RowS.del {σ₀ σ : Store} {a b : Addr} (h : RowS σ₀ a σ) (hb : σ₀ b = none ∧ b ≠ a) : RowS σ₀ a (σ.del b) := by
  obtain ⟨is, h1, h2, h3, h4⟩ := h
  refine ⟨is, (if_neg hb.2.symm).trans h1, h2, h3, fun c p hc e => ?_⟩
  have : c ≠ b := fun z => by rw [z, hb.1] at e; cases e
  exact (if_neg this).trans (h4 c p hc e)
theorem RowS.keep {σ σ' : Store} {a b : Addr} {o : AObj} (h : RowS σ a σ') (hb : b ≠ a) (e : σ b = some o) : σ' b = some o := by
  obtain ⟨is, h1, h2, h3, h4⟩ := h
  exact h4 b o hb e
def nameAt : D → D
  | .int i => .str ⟨#[(97 + i).toNat]⟩
  | d => d
/-- the names of the items -/
def names (n : Nat) : List Str := (List.range n).map fun j => ⟨#[97 + j]⟩
section
variable {C : Ctx} {σ : Store} {X : XP} {Q : D → Store → Prop}
theorem vec_frz {k : Str} {ds : List D} (hf : 2 ≤ C.fuel) (q : Q (vec k ds .none) σ) : CallD C (.ref 250) [.str k, .lst ds] σ Q X := by
  refine call_frz_inst (vector_call hf fun x dx hne hx hd => ⟨x, 250, dx, _, _, rfl, Store.set_self, (Store.set_other hne.symm).trans Store.set_self, ?_⟩)
  rw [del_back hx hd]
  exact q
theorem names_map {n : Nat} (h : n ≤ 5) : (rngs 0 n).map nameAt = (names n).map .str := by
  have : n = 0 ∨ n = 1 ∨ n = 2 ∨ n = 3 ∨ n = 4 ∨ n = 5 := by omega
  rcases this with rfl | rfl | rfl | rfl | rfl | rfl <;> rfl
theorem names_ok {n : Nat} (h : n ≤ 5) : (names n).length ≤ 10 ∧ D.plains ((names n).map .str) = true := by
  have : n = 0 ∨ n = 1 ∨ n = 2 ∨ n = 3 ∨ n = 4 ∨ n = 5 := by omega
  rcases this with rfl | rfl | rfl | rfl | rfl | rfl <;> exact ⟨by decide, by decide +kernel⟩
end

end
section
noncomputable abbrev vEnv (L' : Addr) : Env := envOfC (Str.ofString "_law_vector") S375 L' 375 (.ref 374)
noncomputable abbrev vCtx (C : Ctx) (L' : Addr) : Ctx := C.enter (vEnv L') (ownOf (vEnv L')) (C.fuel - 1)
abbrev FrzQ (Q : D → Store → Prop) : D → Store → Prop := fun d σ₁ => ∃ a K dx ks es, d = .mut a ∧ σ₁ a = some (.inst K dx) ∧ σ₁ dx = some (.dict ks es) ∧ Q (.inst K ks es) ((σ₁.del dx).del a)
abbrev vRho (a x f : Addr) (m kv : D) : Rho := [(Str.ofString "found", .mut f), (Str.ofString "v", .mut x), (Str.ofString "many", m), (Str.ofString "kind", kv), (Str.ofString "row", .mut a)]
structure VT (σ₀ σ : Store) (a x dx f : Addr) (k : Kd) (ds : List D) (l : List (Str × List Str)) : Prop where
  row : RowS σ₀ a σ
  hx : σ x = some (.inst 250 dx)
  hd : σ dx = some (.dict vecK [.str k.str, .lst ds, .none, .bool false, .bool false])
  hf : σ f = some (.dict (l.map (·.1)) (l.map fun p => chars p.2))
  x0 : σ₀ x = none ∧ x ≠ a
  d0 : σ₀ dx = none ∧ dx ≠ a
  f0 : σ₀ f = none ∧ f ≠ a
  xd : x ≠ dx
  fd : dx ≠ f
  fx : x ≠ f
theorem VT.turn {σ₀ σ σ' : Store} {a x dx f : Addr} {k : Kd} {ds : List D} {l : List (Str × List Str)} (h : VT σ₀ σ a x dx f k ds l) (r : RowS σ a σ') : VT σ₀ σ' a x dx f k ds l :=
  ⟨h.row.trans r, r.keep h.x0.2 h.hx, r.keep h.d0.2 h.hd, r.keep h.f0.2 h.hf, h.x0, h.d0, h.f0, h.xd, h.fd, h.fx⟩
theorem VT.more {σ₀ σ : Store} {a x dx f : Addr} {k : Kd} {ds : List D} {l : List (Str × List Str)} (h : VT σ₀ σ a x dx f k ds l) (p : Str × List Str) : VT σ₀ (σ.set f (.dict (l.map (·.1) ++ [p.1]) (l.map (fun p => chars p.2) ++ [chars p.2]))) a x dx f k ds (l ++ [p]) :=
  ⟨h.row.put h.f0, (Store.set_other h.fx).trans h.hx, (Store.set_other h.fd).trans h.hd, by rw [List.map_append, List.map_append]; exact Store.set_self, h.x0, h.d0, h.f0, h.xd, h.fd, h.fx⟩
section
variable {C : Ctx} {σ : Store} {X : XP} {Q : D → Store → Prop}
theorem vtail3 {σ₀ : Store} {L' a x dx f : Addr} {m kv : D} {k : Kd} {ds : List D} {l : List (Str × List Str)} (h : VT σ₀ σ a x dx f k ds l) (ho : (l.map (·.1)).Nodup ∧ l.length ≤ 2 ∧ ∀ p ∈ l, p.2.length ≤ 10 ∧ D.plains (p.2.map .str) = true)
    (q : ∀ (a' : At) σ', a'.ok → RowS σ₀ a σ' → Q (vec k.str ds a'.d) σ') : Exs (vCtx C L') (vEnv L') (vRho a x f m kv) (List.drop 6 B375) σ (Back (FrzQ Q)) X := by
  dsimp only [List.drop]
  refine ex_cons (ex_if (tst_cmp (ev_name rfl ?_ (by decide)) rfl))
  refine ev_dict0 ?_
  refine use_binB (ne_md0 h.hf ho.1) ?_
  cases l with
  | nil =>
    rw [if_neg (by decide)]
    repeat' tb_rel
    refine ⟨x, 250, dx, _, _, rfl, h.hx, h.hd, ?_⟩
    exact q none _ trivial ((h.row.del h.d0).del h.x0)
  | cons p l =>
    rw [if_pos (by rfl)]
    refine ex_cons (ex_setattr (.inr (.inr rfl)) (by tb_start) (ev_frz_dict (ev_name rfl ⟨f, _, _, rfl, h.hf, ?_⟩ (by decide))))
    refine ev_name rfl ⟨x, dx, vecK, _, rfl, (if_neg h.fx).trans h.hx, (if_neg h.fd).trans h.hd, by decide, ?_⟩ (by decide)
    repeat' tb_rel
    refine ⟨x, 250, dx, _, _, rfl, (Store.set_other h.xd).trans ((if_neg h.fx).trans h.hx), Store.set_self, ?_⟩
    exact q (some (p :: l)) _ ho ((((h.row.del h.f0).put h.d0).del h.d0).del h.x0)
theorem vtail2 {σ₀ : Store} {L' a x dx f : Addr} {m kv : D} {k : Kd} {ds : List D} {l : List (Str × List Str)} (hfu : 4 ≤ C.fuel) (h : VT σ₀ σ a x dx f k ds l) (ho : (l.map (·.1)).Nodup ∧ l.length ≤ 1 ∧ ∀ p ∈ l, p.2.length ≤ 10 ∧ D.plains (p.2.map .str) = true) (hu : Str.ofString "unit" ∉ l.map (·.1))
    (q : ∀ (a' : At) σ', a'.ok → RowS σ₀ a σ' → Q (vec k.str ds a'.d) σ') : Exs (vCtx C L') (vEnv L') (vRho a x f m kv) (List.drop 5 B375) σ (Back (FrzQ Q)) X := by
  have hself := h.row.self
  have rest := fun {σ' : Store} {l' : List (Str × List Str)} (h' : VT σ₀ σ' a x dx f k ds l') (ho' : (l'.map (·.1)).Nodup ∧ l'.length ≤ 2 ∧ ∀ p ∈ l', p.2.length ≤ 10 ∧ D.plains (p.2.map .str) = true) => vtail3 (C := C) (L' := L') (m := m) (kv := kv) (X := X) (Q := Q) h' ho' q
  dsimp only [List.drop] at rest
  dsimp only [List.drop]
  refine ex_cons ?_
  repeat' first | with_reducible refine rest (h.turn (by assumption)) ⟨ho.1, by omega, ho.2.2⟩ | with_reducible apply after_next | with_reducible apply ex_nil | with_reducible refine next_spec (by ktr_room) hself (fun _ _ _ _ _ => ?_) | tb_rel
  · rename_i σ' _ _ r hc
    have h' := h.turn r
    refine ex_setitem (by tb_start) ?_
    repeat' first | with_reducible refine vec_frz (by ktr_room) ?_ | tb_rel
    refine ⟨f, _, _, rfl, h'.hf, by rw [List.length_map]; omega, ho.1, hu, ?_⟩
    repeat' first | with_reducible apply after_next | with_reducible apply ex_nil
    refine rest (h'.more (Str.ofString "unit", [Str.ofString "m"])) ⟨by rw [List.map_append]; exact nodup_snoc ho.1 hu, by simp; omega, fun p hp => ?_⟩
    rcases List.mem_append.mp hp with hp | hp
    · exact ho.2.2 p hp
    · rw [List.mem_singleton.mp hp]
      exact ⟨by decide, by decide +kernel⟩
theorem vtail1 {σ₀ : Store} {L' a x dx : Addr} {n : Nat} {kv : D} {k : Kd} {ds : List D} (hfu : 4 ≤ C.fuel) (hn : n ≤ 5) (hr : RowS σ₀ a σ) (hx : σ x = some (.inst 250 dx)) (hd : σ dx = some (.dict vecK [.str k.str, .lst ds, .none, .bool false, .bool false]))
    (x0 : σ₀ x = none ∧ x ≠ a) (d0 : σ₀ dx = none ∧ dx ≠ a) (xd : x ≠ dx)
    (q : ∀ (a' : At) σ', a'.ok → RowS σ₀ a σ' → Q (vec k.str ds a'.d) σ') : Exs (vCtx C L') (vEnv L') [(Str.ofString "v", .mut x), (Str.ofString "many", .int n), (Str.ofString "kind", kv), (Str.ofString "row", .mut a)] (List.drop 3 B375) σ (Back (FrzQ Q)) X := by
  dsimp only [List.drop]
  refine ex_cons (ex_assign (.inl rfl) (ev_dictM fun f hf => ?_) rfl)
  have h : VT σ₀ (σ.set f (.dict [] [])) a x dx f k ds [] := ⟨hr.put (hr.fresh hf), (Store.set_other fun z => by rw [z, hf] at hx; cases hx).trans hx, (Store.set_other fun z => by rw [z, hf] at hd; cases hd).trans hd, Store.set_self, x0, d0, hr.fresh hf, xd, (fun z => by rw [z, hf] at hd; cases hd), (fun z => by rw [z, hf] at hx; cases hx)⟩
  have hself := h.row.self
  have rest := fun {σ' : Store} {l' : List (Str × List Str)} (h' : VT σ₀ σ' a x dx f k ds l') (ho' : (l'.map (·.1)).Nodup ∧ l'.length ≤ 1 ∧ ∀ p ∈ l', p.2.length ≤ 10 ∧ D.plains (p.2.map .str) = true) (hu : Str.ofString "unit" ∉ l'.map (·.1)) => vtail2 (C := C) (L' := L') (m := .int n) (kv := kv) (X := X) (Q := Q) hfu h' ho' hu q
  dsimp only [List.drop] at rest
  have rest0 := fun {σ' : Store} (h' : VT σ₀ σ' a x dx f k ds []) => rest h' ⟨List.nodup_nil, Nat.zero_le _, fun p hp => nomatch hp⟩ List.not_mem_nil
  refine after_next (ex_cons ?_)
  repeat' first | with_reducible refine rest0 (h.turn (by assumption)) | with_reducible apply after_next | with_reducible apply ex_nil | with_reducible refine next_spec (by ktr_room) hself (fun _ _ _ _ _ => ?_) | tb_rel
  · rename_i σ' _ _ r hc
    have h' := h.turn r
    refine ex_setitem (by tb_start) ?_
    repeat' first | with_reducible refine vec_frz (by ktr_room) ?_ | tb_rel
    refine ev_listc ⟨rfl, by decide, rfl, by decide, rfl, (fun p hp => nomatch hp), ⟨_, _, _, rfl, rfl, rfl⟩⟩ (fun _ => rfl) ?_
    repeat' tb_rel
    refine ⟨rngs 0 n, by rw [rngs_length]; omega, walk_rng (by omega) (by omega) (by omega), turns_map (ρ' := []) (fun d => some (nameAt d)) (Str.ofString "") (fun p hp => nomatch hp) (fun d hd new L Q' q' => ?_) ?_⟩
    · obtain ⟨i, hi⟩ := List.getElem?_of_mem hd
      obtain ⟨hi, rfl⟩ := rngs0 hi
      dsimp only [Got, nameAt] at q'
      repeat' first | with_reducible refine chr_i (by omega) (by omega) ?_ | tb_rel
      exact q'
    · rw [mapM_some, names_map hn]
      dsimp only [Gots]
      repeat' first | with_reducible refine vec_frz (by ktr_room) ?_ | tb_rel
      refine ⟨f, _, _, rfl, h'.hf, by decide, List.nodup_nil, List.not_mem_nil, ?_⟩
      repeat' first | with_reducible apply after_next | with_reducible apply ex_nil
      refine rest (h'.more (Str.ofString "names", names n)) ⟨List.nodup_cons.mpr ⟨List.not_mem_nil, List.nodup_nil⟩, Nat.le_refl 1, fun p hp => ?_⟩ (show Str.ofString "unit" ∉ [Str.ofString "names"] by decide)
      rw [List.mem_singleton.mp hp]
      exact names_ok hn
end

end
section
def WholeJ (σ₀ : Store) (a : Addr) (i : Nat) (acc : List D) (σ : Store) : Prop := RowS σ₀ a σ ∧ ∃ is : List (Option Int), acc = is.map wi ∧ is.length = i ∧ ∀ j, some j ∈ is → -451 < j ∧ j < 451
theorem WholeJ.push {σ₀ σ σ' : Store} {a : Addr} {i : Nat} {acc : List D} (h : WholeJ σ₀ a i acc σ) (r : RowS σ₀ a σ') (o : Option Int) (ho : ∀ j, o = some j → -451 < j ∧ j < 451) : WholeJ σ₀ a (i + 1) (acc ++ [wi o]) σ' := by
  obtain ⟨_, is, rfl, h2, h3⟩ := h
  refine ⟨r, is ++ [o], by simp, by simp [h2], fun j hj => ?_⟩
  rcases List.mem_append.mp hj with hj | hj
  · exact h3 j hj
  · exact ho j (List.mem_singleton.mp hj).symm
def DblJ (σ₀ : Store) (a : Addr) (i : Nat) (acc : List D) (σ : Store) : Prop := RowS σ₀ a σ ∧ ∃ xs : List It, acc = xs.map It.d ∧ xs.length = i ∧ ∀ x ∈ xs, Good x
theorem DblJ.push {σ₀ σ σ' : Store} {a : Addr} {i : Nat} {acc : List D} (h : DblJ σ₀ a i acc σ) (r : RowS σ₀ a σ') (x : It) (hx : Good x) : DblJ σ₀ a (i + 1) (acc ++ [x.d]) σ' := by
  obtain ⟨_, xs, rfl, h2, h3⟩ := h
  refine ⟨r, xs ++ [x], by simp, by simp [h2], fun y hy => ?_⟩
  rcases List.mem_append.mp hy with hy | hy
  · exact h3 y hy
  · rw [List.mem_singleton.mp hy]; exact hx
section
variable {C : Ctx} {σ : Store} {X : XP} {Q : D → Store → Prop}
set_option maxHeartbeats 4000000 in
theorem vector_spec {σ₀ : Store} {a : Addr} (hf : 6 ≤ C.fuel) (hr : RowS σ₀ a σ) (q : ∀ (k : Kd) ds xs (a' : At) σ', Drawn k ds xs → a'.ok → RowS σ₀ a σ' → Q (vec k.str ds a'.d) σ') : CallD C (.ref 375) [.mut a] σ Q X := by
  refine call_frz_inst (call1C rfl rfl (by omega) (fun _ _ => BindsTo.of_eq rfl) (fun _ => .inr ⟨rfl, rfl⟩) (fun L' => ?_) rfl rfl rfl (by decide))
  have rest : ∀ {σ' : Store} {x dx : Addr} {n : Nat} {kv : D} {k : Kd} {ds : List D} {xs : List It}, Drawn k ds xs → n ≤ 5 → RowS σ₀ a σ' → x ≠ dx → σ' x = none → σ' dx = none →
      Exs (vCtx C L') (vEnv L') [(Str.ofString "v", .mut x), (Str.ofString "many", .int n), (Str.ofString "kind", kv), (Str.ofString "row", .mut a)] (List.drop 3 B375) ((σ'.set dx (.dict vecK [.str k.str, .lst ds, .none, .bool false, .bool false])).set x (.inst 250 dx)) (Back (FrzQ Q)) X := fun hD hn r hne hx hd =>
    vtail1 (by omega) hn ((r.put (r.fresh hd)).put (r.fresh hx)) Store.set_self ((Store.set_other hne.symm).trans Store.set_self) (r.fresh hx) (r.fresh hd) hne (fun a' σ' ha' r' => q _ _ _ a' σ' hD ha' r')
  dsimp only [List.drop] at rest
  repeat' first | with_reducible refine next_spec (by ktr_room) (by assumption) (fun _ _ _ _ _ => ?_) | tb_rel
  · rename_i i1 s1 _ _ _ i2 s2 b1 b2 r hk
    obtain ⟨n, hn, e⟩ : ∃ n : Nat, n ≤ 5 ∧ i2 % 6 = n := ⟨(i2 % 6).toNat, by omega, by omega⟩
    rw [e]
    refine ev_listc ⟨rfl, by decide, rfl, by decide, rfl, (by intro p hp; simp at hp; rcases hp with rfl; rfl), ⟨_, _, _, rfl, rfl, rfl⟩⟩ (fun _ => rfl) ?_
    repeat' tb_rel
    refine ⟨rngs 0 n, by rw [rngs_length]; omega, walk_rng (by omega) (by omega) (by omega), [(Str.ofString "row", .mut a)], (by intro p hp; simp at hp; rcases hp with rfl; exact ⟨rfl, .inl rfl, .inl rfl, rfl⟩), WholeJ σ₀ a, ⟨r, [], rfl, rfl, fun _ h => nomatch h⟩, ?_, ?_⟩
    · intro i d acc new L σ' hd hJ
      have r' := hJ.1
      refine tsts_nil ?_
      rw [if_pos rfl]
      repeat' first | with_reducible refine next_spec (by ktr_room) r' (fun _ _ _ _ _ => ?_) | tb_rel
      refine use_subm (by omega) (by simp only [List.length]; omega) (by simp only [List.length]; omega) (fun _ _ => rfl) (fun d hd => ?_)
      simp only [List.mem_cons, List.not_mem_nil, or_false] at hd
      rcases hd with rfl | rfl | rfl
      · exact hJ.push (by assumption) (some 1) (by intro j h; cases h; omega)
      · exact hJ.push (by assumption) (some 0) (by intro j h; cases h; omega)
      · exact hJ.push (by assumption) none (by intro j h; cases h)
    · rintro acc σ' ⟨r', is, rfl, hlen, hb⟩
      rw [rngs_length] at hlen
      repeat' first | with_reducible refine vector_call (by ktr_room) (fun _ _ _ _ _ => ?_) | with_reducible apply after_next | with_reducible refine evs_cons ?_ (by tb_start) | with_reducible apply evs_nil | with_reducible apply ex_nil
      exact rest (k := .log) (.whole (fun h => nomatch h) (by omega) hb) hn r' (by assumption) (by assumption) (by assumption)
  · rename_i i1 s1 _ _ _ i2 s2 b1 b2 r hk hk1
    obtain ⟨n, hn, e⟩ : ∃ n : Nat, n ≤ 5 ∧ i2 % 6 = n := ⟨(i2 % 6).toNat, by omega, by omega⟩
    rw [e]
    refine ev_listc ⟨rfl, by decide, rfl, by decide, rfl, (by intro p hp; simp at hp; rcases hp with rfl; rfl), ⟨_, _, _, rfl, rfl, rfl⟩⟩ (fun _ => rfl) ?_
    repeat' tb_rel
    refine ⟨rngs 0 n, by rw [rngs_length]; omega, walk_rng (by omega) (by omega) (by omega), [(Str.ofString "row", .mut a)], (by intro p hp; simp at hp; rcases hp with rfl; exact ⟨rfl, .inl rfl, .inl rfl, rfl⟩), WholeJ σ₀ a, ⟨r, [], rfl, rfl, fun _ h => nomatch h⟩, ?_, ?_⟩
    · intro i d acc new L σ' hd hJ
      have r' := hJ.1
      obtain ⟨hi, rfl⟩ := rngs0 hd
      refine tsts_nil ?_
      rw [if_pos rfl]
      repeat' first | with_reducible refine next_spec (by ktr_room) r' (fun _ _ _ _ _ => ?_) | tb_rel
      · refine use_subm (by omega) (by simp only [List.length]; omega) (by simp only [List.length]; omega) (fun _ _ => rfl) (fun d hd => ?_)
        simp only [List.mem_cons, List.not_mem_nil, or_false] at hd
        rcases hd with rfl | rfl | rfl
        · exact hJ.push (by assumption) none (by intro j h; cases h)
        · exact hJ.push (by assumption) (some 1) (by intro j h; cases h; omega)
        · exact hJ.push (by assumption) (some 0) (by intro j h; cases h; omega)
      · exact hJ.push (by assumption) (some _) (by intro j h; cases h; omega)
    · rintro acc σ' ⟨r', is, rfl, hlen, hb⟩
      rw [rngs_length] at hlen
      repeat' first | with_reducible refine vector_call (by ktr_room) (fun _ _ _ _ _ => ?_) | with_reducible apply after_next | with_reducible refine evs_cons ?_ (by tb_start) | with_reducible apply evs_nil | with_reducible apply ex_nil
      exact rest (k := .int) (.whole (fun h => nomatch h) (by omega) hb) hn r' (by assumption) (by assumption) (by assumption)
  · rename_i i1 s1 _ _ _ i2 s2 b1 b2 r hk hk1
    obtain ⟨n, hn, e⟩ : ∃ n : Nat, n ≤ 5 ∧ i2 % 6 = n := ⟨(i2 % 6).toNat, by omega, by omega⟩
    rw [e]
    refine ev_listc ⟨rfl, by decide, rfl, by decide, rfl, (by intro p hp; simp at hp; rcases hp with rfl; rfl), ⟨_, _, _, rfl, rfl, rfl⟩⟩ (fun _ => rfl) ?_
    repeat' tb_rel
    refine ⟨rngs 0 n, by rw [rngs_length]; omega, walk_rng (by omega) (by omega) (by omega), [(Str.ofString "row", .mut a)], (by intro p hp; simp at hp; rcases hp with rfl; exact ⟨rfl, .inl rfl, .inl rfl, rfl⟩), DblJ σ₀ a, ⟨r, [], rfl, rfl, fun _ h => nomatch h⟩, ?_, ?_⟩
    · intro i d acc new L σ' hd hJ
      have r' := hJ.1
      refine tsts_nil ?_
      rw [if_pos rfl]
      repeat' first | with_reducible refine item_spec (by ktr_room) r' (fun _ _ _ _ => ?_) | tb_rel
      exact hJ.push (by assumption) _ (by assumption)
    · rintro acc σ' ⟨r', xs, rfl, hlen, hb⟩
      rw [rngs_length] at hlen
      repeat' first | with_reducible refine vector_call (by ktr_room) (fun _ _ _ _ _ => ?_) | with_reducible apply after_next | with_reducible refine evs_cons ?_ (by tb_start) | with_reducible apply evs_nil | with_reducible apply ex_nil
      exact rest (k := .dbl) (.dbl (by omega) hb) hn r' (by assumption) (by assumption) (by assumption)
end

end
section
theorem ceil_eq {n d : Int} (hd : 0 < d) : (if n / d * d = n then n / d else n / d + 1) = -(-n / d) := by
  have h1 : n = d * (n / d) + n % d := (Int.mul_ediv_add_emod n d).symm
  have h2 := Int.emod_nonneg n (show d ≠ 0 by omega)
  have h3 := Int.emod_lt_of_pos n hd
  generalize n / d = u at *
  generalize n % d = r at *
  subst h1
  split
  · rename_i h
    have : r = 0 := by
      have e : u * d = d * u := Int.mul_comm _ _
      omega
    subst this
    have e : -(d * u + 0) = d * (-u) := by rw [Int.add_zero, Int.mul_neg]
    rw [e, Int.mul_ediv_cancel_left _ (by omega), Int.neg_neg]
  · rename_i h
    have hr : 0 < r := by
      rcases Int.lt_or_le 0 r with h' | h'
      · exact h'
      · have : r = 0 := by omega
        subst this
        exact absurd (by rw [Int.add_zero, Int.mul_comm]) h
    have e : -(d * u + r) = (d - r) + d * (-(u + 1)) := by grind
    rw [e, Int.add_mul_ediv_left _ _ (by omega), Int.ediv_eq_zero_of_lt (by omega) (by omega)]
    omega
/-- what the law asks of an item -/
def due1 : Option It → D
  | some y => y.d
  | none => .str (Str.ofString "no")
section
variable {C : Ctx} {σ : Store} {X : XP} {Q : D → Store → Prop}
theorem step_floor {n d : Int} (hf : 1 ≤ C.fuel) (hd : 0 ≤ d) (hd2 : d < 169) (q : Q (vFloor (some (n, d))).d σ) : CallD C (.ref 382) [.str (Str.ofString "floor"), .tup [.int n, .int d]] σ Q X := by
  refine call2 rfl rfl (by omega) (fun _ _ _ => BindsTo.of_eq rfl) rfl rfl (fun L' => ?_) rfl rfl rfl (by decide)
  dsimp only [vFloor] at q
  repeat' tb_rel
  all_goals first | (rw [if_neg (by omega)] at q; exact q) | (rw [if_pos (by omega)] at q; exact q)
theorem step_ceil {n d : Int} (hf : 1 ≤ C.fuel) (hd : 0 ≤ d) (hd2 : d < 169) (q : Q (vCeil (some (n, d))).d σ) : CallD C (.ref 382) [.str (Str.ofString "ceiling"), .tup [.int n, .int d]] σ Q X := by
  refine call2 rfl rfl (by omega) (fun _ _ _ => BindsTo.of_eq rfl) rfl rfl (fun L' => ?_) rfl rfl rfl (by decide)
  dsimp only [vCeil] at q
  repeat' tb_rel
  · rw [if_neg (by omega)] at q; exact q
  all_goals
    have h0 : 0 < d := by omega
    have ce := ceil_eq (n := n) h0
    rw [if_pos h0] at q
    first | (rw [if_pos (by assumption)] at ce; rw [ce]; exact q) | (rw [if_neg (by assumption)] at ce; rw [ce]; exact q)
theorem step_trunc {n d : Int} (hf : 1 ≤ C.fuel) (hd : 0 ≤ d) (hd2 : d < 169) (q : Q (vTrunc (some (n, d))).d σ) : CallD C (.ref 382) [.str (Str.ofString "trunc"), .tup [.int n, .int d]] σ Q X := by
  refine call2 rfl rfl (by omega) (fun _ _ _ => BindsTo.of_eq rfl) rfl rfl (fun L' => ?_) rfl rfl rfl (by decide)
  dsimp only [vTrunc] at q
  repeat' tb_rel
  · rw [if_neg (by omega)] at q; exact q
  all_goals
    have h0 : 0 < d := by omega
    have ce := ceil_eq (n := n) h0
    rw [if_pos h0] at q
    first
      | (rw [if_pos (by omega)] at q; exact q)
      | (rw [if_neg (by omega)] at q; first | (rw [if_pos (by assumption)] at ce; rw [ce]; exact q) | (rw [if_neg (by assumption)] at ce; rw [ce]; exact q))
end

end
section
/-- the first number of a range whose square is n -/
def lo (n : Int) : Option Int := ((List.range 12).map fun j => Int.ofNat (j + 1)).find? fun a => a * a == n
theorem lo_eq {d : Int} (h0 : 1 ≤ d) (h1 : d < 169) : lo d = sq d := by
  obtain ⟨m, rfl⟩ := Int.eq_ofNat_of_zero_le (show 0 ≤ d by omega)
  have e : ∀ m < 169, 1 ≤ m → lo (m : Nat) = sq (m : Nat) := by decide +kernel
  exact e m (by omega) (by omega)
/-- an equation that omega need not look at -/
def Eqn (a b : Int) : Prop := a = b
def sqD (n : Int) : D → Bool
  | .int a => a * a == n
  | _ => false
theorem tops_eq {n : Int} : (rngs 0 22).filter (sqD n) = ((((List.range 22).map Int.ofNat).filter fun a => a * a == n).map .int) := by
  have : rngs 0 22 = ((List.range 22).map Int.ofNat).map .int := rfl
  rw [this, List.filter_map]
  rfl
theorem lows_eq {n : Int} : (rngs 1 12).filter (sqD n) = (((((List.range 12).map fun j => Int.ofNat (j + 1))).filter fun a => a * a == n).map .int) := by
  have : rngs 1 12 = (((List.range 12).map fun j => Int.ofNat (j + 1))).map .int := rfl
  rw [this, List.filter_map]
  rfl
theorem filter_find {p : Int → Bool} {l : List Int} : (l.find? p = none ∧ l.filter p = []) ∨ ∃ r rs, l.find? p = some r ∧ l.filter p = r :: rs := by
  have h := List.head?_filter (p := p) (l := l)
  cases hf : l.filter p with
  | nil => rw [hf] at h; exact .inl ⟨h.symm, rfl⟩
  | cons r rs => rw [hf] at h; exact .inr ⟨r, rs, h.symm, rfl⟩
theorem plain_ints {is : List Int} : (D.lst (is.map .int)).plain = true := by rw [D.plain]; exact plains_ints
theorem classes {n d sd : Int} (hg : Good (some (n, d))) (h0 : ¬ (n = 0 ∧ d = 0)) (hsd : sd = (if 0 < n then 1 else if n < 0 then -1 else 0)) :
    (n = 1 ∧ d = 0 ∧ sd = 1) ∨ (n = -1 ∧ d = 0 ∧ sd = -1) ∨ (n < 0 ∧ 0 < d ∧ sd = -1) ∨ (n = 0 ∧ d = 1 ∧ sd = 0) ∨ (0 < n ∧ 0 < d ∧ sd = 1) := by
  obtain ⟨g1, _, _, _, g5, g6⟩ := hg
  by_cases hd : d = 0
  · rcases g5 hd with h | h | h
    · exact absurd ⟨h, hd⟩ h0
    · subst h; exact .inl ⟨rfl, hd, hsd⟩
    · subst h; exact .inr (.inl ⟨rfl, hd, hsd⟩)
  · have hd' : 0 < d := by clear hsd; omega
    rcases Int.lt_trichotomy n 0 with h | h | h
    · rw [if_neg (by omega), if_pos h] at hsd
      exact .inr (.inr (.inl ⟨h, hd', hsd⟩))
    · rw [if_neg (by omega), if_neg (by omega)] at hsd
      exact .inr (.inr (.inr (.inl ⟨h, g6 hd h, hsd⟩)))
    · rw [if_pos h] at hsd
      exact .inr (.inr (.inr (.inr ⟨h, hd', hsd⟩)))
noncomputable abbrev valEnv (L' : Addr) : Env := envOfC (Str.ofString "_law_value") S387 L' 387 (.ref 386)
noncomputable abbrev valCtx (C : Ctx) (L' : Addr) : Ctx := C.enter (valEnv L') (ownOf (valEnv L')) (C.fuel - 1)
section
variable {C : Ctx} {σ : Store} {X : XP} {Q : D → Store → Prop}
set_option maxHeartbeats 0 in
theorem val_sqrt2 {n d sd : Int} {L' : Addr} (hf : 3 ≤ C.fuel) (hs : 0 ≤ sd) (hd1 : 1 ≤ d) (hd2 : d < 169) (q : Q (due1 (match sq n, sq d with | some a, some b => some (some (a, b)) | _, _ => none)) σ) :
    Exs (valCtx C L') (valEnv L') [(Str.ofString "side", .int sd), (Str.ofString "x", .tup [.int n, .int d]), (Str.ofString "name", .str (Str.ofString "sqrt"))] (List.drop 2 B387) σ (Back Q) X := by
  dsimp only [List.drop]
  repeat' first | tb_rel | with_reducible refine use_binB (in_tup (by decide +kernel) (by decide +kernel) (by decide +kernel)) ?_ | rw [if_pos (by decide +kernel)] | rw [if_neg (by decide +kernel)]
  rw [← lo_eq hd1 hd2] at q
  refine ex_listc ⟨rfl, by decide, rfl, by decide, rfl, (by intro p hp; simp at hp; rcases hp with rfl; rfl), ⟨_, _, _, rfl, rfl, rfl⟩⟩ (fun _ => rfl) rfl rfl ?_
  repeat' tb_rel
  refine ⟨rngs 0 22, by decide, walk_rng (by decide) (by decide) (by decide), turns_filter (ρ' := [(Str.ofString "x", .tup [.int n, .int d])]) (sqD n) (by intro p hp; simp at hp; rcases hp with rfl; exact ⟨rfl, .inl rfl, .inl rfl, rfl⟩) (fun e he new L Q' q' => ?_) (fun e he new L Q' q' => ?_) ?_⟩
  · obtain ⟨i, hi⟩ := List.getElem?_of_mem he
    obtain ⟨hi, rfl⟩ := rngs0 hi
    refine tst_cmp ?_ rfl
    repeat' tb_rel
    exact q'
  · repeat' tb_rel
    exact q'
  repeat' tb_rel
  refine ex_listc ⟨rfl, by decide, rfl, by decide, rfl, (by intro p hp; simp at hp; rcases hp with rfl; rfl), ⟨_, _, _, rfl, rfl, rfl⟩⟩ (fun _ => rfl) rfl rfl ?_
  repeat' first | with_reducible apply range2 | tb_rel
  refine ⟨rngs 1 12, by decide, walk_rng (by decide) (by decide) (by decide), turns_filter (ρ' := [(Str.ofString "x", .tup [.int n, .int d])]) (sqD d) (by intro p hp; simp at hp; rcases hp with rfl; exact ⟨rfl, .inl rfl, .inl rfl, rfl⟩) (fun e he new L Q' q' => ?_) (fun e he new L Q' q' => ?_) ?_⟩
  · obtain ⟨i, hi⟩ := List.getElem?_of_mem he
    have hi' : i < 12 := by
      obtain ⟨h1, _⟩ := List.getElem?_eq_some_iff.mp hi
      rw [rngs_length] at h1; exact h1
    rw [rngs_get hi'] at hi
    cases hi
    refine tst_cmp ?_ rfl
    repeat' tb_rel
    exact q'
  · repeat' tb_rel
    exact q'
  rw [tops_eq, lows_eq]
  repeat' tb_rel
  have p1 : sq n = ((List.range 22).map Int.ofNat).find? fun a => a * a == n := rfl
  have p2 : lo d = ((List.range 12).map fun j => Int.ofNat (j + 1)).find? fun a => a * a == d := rfl
  rcases filter_find (p := fun a => a * a == n) (l := (List.range 22).map Int.ofNat) with ⟨f1, f2⟩ | ⟨r, rs, f1, f2⟩
  · rw [f2]
    refine use_binB (ne_dd plain_ints rfl depth_ints' (by decide)) ?_
    rw [eqv_nil]
    rw [p1, f1] at q
    rw [if_neg (by decide)]
    repeat' tb_rel
    exact q
  rw [f2]
  refine use_binB (ne_dd plain_ints rfl depth_ints' (by decide)) ?_
  rw [eqv_nil]
  rw [p1, f1, p2] at q
  rw [if_pos (by rfl)]
  repeat' tb_rel
  rcases filter_find (p := fun a => a * a == d) (l := (List.range 12).map fun j => Int.ofNat (j + 1)) with ⟨f3, f4⟩ | ⟨r2, rs2, f3, f4⟩
  · rw [f4]
    refine use_binB (ne_dd plain_ints rfl depth_ints' (by decide)) ?_
    rw [eqv_nil]
    rw [f3] at q
    rw [if_neg (by decide)]
    repeat' tb_rel
    exact q
  rw [f4]
  refine use_binB (ne_dd plain_ints rfl depth_ints' (by decide)) ?_
  rw [eqv_nil]
  rw [f3] at q
  rw [if_pos (by rfl)]
  repeat' tb_rel
  refine use_bin (sub_lstR (d := .int r) (by decide) (by decide) rfl (fun _ _ => rfl)) ?_
  repeat' tb_rel
  refine use_bin (sub_lstR (d := .int r2) (by decide) (by decide) rfl (fun _ _ => rfl)) ?_
  repeat' tb_rel
  exact q
set_option maxHeartbeats 0 in
theorem val_sqrt {n d sd : Int} {L' : Addr} (hf : 3 ≤ C.fuel) (hg : Good (some (n, d))) (q : Q (due1 (vMath .sqrt (some (n, d)))) σ) (h0 : ¬ (n = 0 ∧ d = 0)) (hsd : sd = (if 0 < n then 1 else if n < 0 then -1 else 0)) :
    Exs (valCtx C L') (valEnv L') [(Str.ofString "side", .int sd), (Str.ofString "x", .tup [.int n, .int d]), (Str.ofString "name", .str (Str.ofString "sqrt"))] (List.drop 2 B387) σ (Back Q) X := by
  have hc := classes hg h0 hsd
  have hd2 := hg.2.1
  clear hg hsd
  dsimp only [vMath, vSqrt] at q
  have low : sd = -1 → Q (.tup [.int 0, .int 0]) σ → Exs (valCtx C L') (valEnv L') [(Str.ofString "side", .int sd), (Str.ofString "x", .tup [.int n, .int d]), (Str.ofString "name", .str (Str.ofString "sqrt"))] (List.drop 2 B387) σ (Back Q) X := by
    intro h1 q'
    subst h1
    clear q hc hd2 h0
    dsimp only [List.drop]
    repeat' first | tb_rel | with_reducible refine use_binB (in_tup (by decide +kernel) (by decide +kernel) (by decide +kernel)) ?_ | rw [if_pos (by decide +kernel)] | rw [if_neg (by decide +kernel)]
    exact q'
  rcases hc with ⟨rfl, rfl, rfl⟩ | ⟨rfl, rfl, rfl⟩ | ⟨h1, h2, h3⟩ | ⟨rfl, rfl, rfl⟩ | ⟨h1, h2, h3⟩
  · clear low
    dsimp only [List.drop]
    repeat' first | tb_rel | with_reducible refine use_binB (in_tup (by decide +kernel) (by decide +kernel) (by decide +kernel)) ?_ | rw [if_pos (by decide +kernel)] | rw [if_neg (by decide +kernel)]
    exact q
  · exact low rfl q
  · rw [if_neg h0, if_neg (by omega), if_pos h1] at q
    exact low h3 q
  · exact val_sqrt2 hf (by decide) (by decide) (by decide) q
  · rw [if_neg h0, if_neg (by omega), if_neg (by omega)] at q
    exact val_sqrt2 hf (by omega) h2 hd2 q
set_option maxHeartbeats 0 in
theorem val_rest {nm : Nm} {n d sd : Int} {L' : Addr} (hnm : nm ≠ .sqrt) (hf : 3 ≤ C.fuel) (hg : Good (some (n, d))) (q : Q (due1 (vMath nm (some (n, d)))) σ) (h0 : ¬ (n = 0 ∧ d = 0)) (hsd : sd = (if 0 < n then 1 else if n < 0 then -1 else 0)) :
    Exs (valCtx C L') (valEnv L') [(Str.ofString "side", .int sd), (Str.ofString "x", .tup [.int n, .int d]), (Str.ofString "name", .str nm.str)] (List.drop 2 B387) σ (Back Q) X := by
  have hc := classes hg h0 hsd
  obtain ⟨hd1, hd2, _, _, _, _⟩ := hg
  dsimp only [List.drop]
  cases nm <;> first | exact absurd rfl hnm | skip
  all_goals dsimp only [Nm.str, vMath] at q ⊢ <;> (try dsimp only [vAbs, vSign, vExp, vLog] at q)
  rotate_left 5
  · rcases hc with ⟨rfl, rfl, rfl⟩ | ⟨rfl, rfl, rfl⟩ | ⟨h1, h2, rfl⟩ | ⟨rfl, rfl, rfl⟩ | ⟨h1, h2, rfl⟩
    all_goals clear hsd hnm
    all_goals repeat' first | tb_rel | with_reducible refine use_binB (in_tup (by decide +kernel) (by decide +kernel) (by decide +kernel)) ?_ | rw [if_pos (by decide +kernel)] | rw [if_neg (by decide +kernel)]
    all_goals first | exact q | (rw [if_neg (by omega), if_neg (by omega), if_neg (by omega), if_neg (by omega)] at q; exact q)
  · rcases hc with ⟨rfl, rfl, rfl⟩ | ⟨rfl, rfl, rfl⟩ | ⟨h1, h2, rfl⟩ | ⟨rfl, rfl, rfl⟩ | ⟨h1, h2, rfl⟩
    all_goals clear hsd hnm
    all_goals repeat' first | tb_rel | with_reducible refine use_binB (in_tup (by decide +kernel) (by decide +kernel) (by decide +kernel)) ?_ | rw [if_pos (by decide +kernel)] | rw [if_neg (by decide +kernel)]
    all_goals first
      | exact q
      | (rw [if_neg (by omega), if_neg (by omega), if_neg (by omega), if_neg (by omega), if_pos (by omega)] at q; exact q)
      | (rw [if_neg (by omega), if_neg (by omega), if_pos (by omega)] at q; exact q)
      | (rw [if_neg (by omega), if_neg (by omega), if_neg (by omega), if_neg (by omega), if_neg (by omega)] at q; exact q)
  all_goals clear hc
  all_goals repeat' first | tb_rel | with_reducible refine use_binB (in_tup (by decide +kernel) (by decide +kernel) (by decide +kernel)) ?_ | rw [if_pos (by decide +kernel)] | rw [if_neg (by decide +kernel)] | with_reducible refine step_floor (by ktr_room) hd1 hd2 ?_ | with_reducible refine step_ceil (by ktr_room) hd1 hd2 ?_ | with_reducible refine step_trunc (by ktr_room) hd1 hd2 ?_
  · exact q
  · rw [if_neg h0] at q
    exact qr (by rw [hsd]; clear hsd; (repeat' split) <;> first | rfl | (exfalso; omega)) rfl q
  · exact q
  · exact q
  · exact q
theorem value_spec {nm : Nm} {x : It} (hf : 3 ≤ C.fuel) (hg : Good x) (q : Q (due1 (vMath nm x)) σ) : CallD C (.ref 387) [.str nm.str, x.d] σ Q X := by
  refine call2C rfl rfl (by omega) (fun _ _ _ => BindsTo.of_eq rfl) (fun _ => .inl rfl) (fun _ => .inr ⟨rfl, rfl⟩) (fun L' => ?_) rfl rfl rfl (by decide)
  rcases x with _ | ⟨n, d⟩
  · dsimp only [It.d]
    repeat' tb_rel
    cases nm <;> exact q
  · dsimp only [It.d]
    have rest : ¬ (n = 0 ∧ d = 0) → ∀ sd : Int, sd = (if 0 < n then 1 else if n < 0 then -1 else 0) → Exs (valCtx C L') (valEnv L') [(Str.ofString "side", .int sd), (Str.ofString "x", .tup [.int n, .int d]), (Str.ofString "name", .str nm.str)] (List.drop 2 B387) σ (Back Q) X := fun h0 sd hsd => by
      by_cases hnm : nm = .sqrt
      · subst hnm; exact val_sqrt hf hg q h0 hsd
      · exact val_rest hnm hf hg q h0 hsd
    dsimp only [List.drop] at rest
    have rest1 : ¬ (n = 0 ∧ d = 0) → Exs (valCtx C L') (valEnv L') [(Str.ofString "x", .tup [.int n, .int d]), (Str.ofString "name", .str nm.str)] (List.drop 1 B387) σ (Back Q) X := by
      intro h0
      obtain ⟨sd, hsd⟩ : ∃ sd : Int, sd = (if 0 < n then 1 else if n < 0 then -1 else 0) := ⟨_, rfl⟩
      dsimp only [List.drop]
      refine ex_cons (ex_assign (.inl rfl) (Q := After _ _ _ _ _) (Jd.mono (Q := fun d s => d = .int sd ∧ s = σ) ?_ ?_ fun _ _ x => x) rfl)
      · repeat' tb_rel
        all_goals exact ⟨by rw [hsd]; repeat' (first | rfl | omega | split), rfl⟩
      · rintro d' s ⟨rfl, rfl⟩
        exact after_next (rest h0 sd hsd)
    dsimp only [List.drop] at rest1
    refine ex_cons ?_
    repeat' first | with_reducible refine rest1 (by assumption) | tb_rel
    rename_i hz
    obtain ⟨rfl, rfl⟩ := hz
    cases nm <;> exact q
end

end
section
theorem ten_zero : ten 0 = 1 := rfl
theorem red_one {n : Int} : red n 1 = (n, 1) := by
  unfold red
  have : (Int.gcd n 1 : Int) = 1 := by rw [Int.gcd_one_right]; rfl
  rw [this, Int.ediv_one, Int.ediv_one]
theorem law_rnd {n d p : Int} : red (near (n * ten (if 0 > p then 0 else p)) (d * ten (if 0 > -p then 0 else -p)) * ten (if 0 > -p then 0 else -p)) (ten (if 0 > p then 0 else p)) = vRnd n d p := by
  unfold vRnd
  by_cases h : 0 ≤ p
  · rw [if_pos h, if_neg (by omega : ¬ 0 > p)]
    have e : (if 0 > -p then 0 else -p) = 0 := by split <;> omega
    rw [e, ten_zero, Int.mul_one, Int.mul_one]
  · rw [if_neg h, if_pos (by omega : 0 > p), if_neg (by omega : ¬ 0 > -p), ten_zero, Int.mul_one, red_one]
section
variable {C : Ctx} {σ : Store} {X : XP} {Q : D → Store → Prop}
theorem max_eq {i j u : Int} (h : Eqn u (if j > i then j else i)) (q : Q (.int u) σ) : CallD C (.builtin "max") [.int i, .int j] σ Q X := max_ii (by unfold Eqn at h; rw [← h]; exact q)
set_option maxHeartbeats 0 in
theorem rounded_law {x : It} {p : Int} (hf : 3 ≤ C.fuel) (hg : Good x) (hp : -13 ≤ p ∧ p ≤ 13) (q : Q (vRound p x).d σ) : CallD C (.ref 394) [x.d, .int p] σ Q X := by
  refine call2 rfl rfl (by omega) (fun _ _ _ => BindsTo.of_eq rfl) rfl rfl (fun L' => ?_) rfl rfl rfl (by decide)
  rcases x with _ | ⟨n, d⟩ <;> dsimp only [It.d, vRound, Good] at q hg ⊢
  · repeat' tb_rel
    exact q
  by_cases hd0 : d = 0
  · rw [if_neg (by omega)] at q
    repeat' tb_rel
    exact q
  have hd : 0 < d := by omega
  rw [if_pos hd, ← law_rnd] at q
  have b1 : 0 ≤ (if 0 > p then 0 else p) ∧ (if 0 > p then 0 else p) ≤ 13 := by split <;> omega
  have b2 : 0 ≤ (if 0 > -p then 0 else -p) ∧ (if 0 > -p then 0 else -p) ≤ 13 := by split <;> omega
  have e1 : ∃ e : Int, e = (if 0 > p then 0 else p) := ⟨_, rfl⟩
  have e2 : ∃ e : Int, e = (if 0 > -p then 0 else -p) := ⟨_, rfl⟩
  obtain ⟨u, hu⟩ := e1
  obtain ⟨v, hv⟩ := e2
  rw [← hu] at q b1
  rw [← hv] at q b2
  have t1 := ten_bound b1.2
  have t2 := ten_bound b2.2
  have h3 : d * ten v < 2 ^ 62 ∧ 0 < d * ten v := by
    refine ⟨?_, Int.mul_pos hd t2.1⟩
    have := Int.mul_le_mul (show d ≤ 169 by omega) t2.2 (by omega) (by omega)
    omega
  unfold near at q
  have hu : Eqn u (if 0 > p then 0 else p) := hu
  have hv : Eqn v (if 0 > -p then 0 else -p) := hv
  repeat' first
    | with_reducible refine use_bin (pow_ten (by omega) (by omega)) ?_
    | with_reducible refine max_eq hu ?_
    | with_reducible refine max_eq hv ?_
    | with_reducible refine reduced_spec (by ktr_room) (by omega) (by omega) ?_
    | tb_rel
  all_goals first | (rw [if_pos (by omega)] at q; exact q) | (rw [if_neg (by omega)] at q; exact q)
end

end
section
theorem figs {m : Int} (h1 : 1 ≤ m) (h2 : m < 484) : (((toString m : String) : Str).length : Int) = if 100 ≤ m then 3 else if 10 ≤ m then 2 else 1 := by
  obtain ⟨k, rfl⟩ := Int.eq_ofNat_of_zero_le (show 0 ≤ m by omega)
  have e : ∀ k : Nat, k < 484 → 1 ≤ k → (((toString (k : Int) : String) : Str).length : Int) = if 100 ≤ (k : Int) then 3 else if 10 ≤ (k : Int) then 2 else 1 := by decide +kernel
  exact e k (by omega) (by omega)
theorem figs_expo {m d : Int} (h0 : 0 < d) (h1 : d ≤ m) (h2 : m < 484) : (((toString (m / d) : String) : Str).length : Int) - 1 = expo m d := by
  have a1 : 1 ≤ m / d := (Int.le_ediv_iff_mul_le h0).mpr (by omega)
  have a2 : m / d < 484 := by
    have := Int.ediv_le_self d (show 0 ≤ m by omega)
    omega
  rw [figs a1 a2]
  have b1 : 100 ≤ m / d ↔ 100 * d ≤ m := Int.le_ediv_iff_mul_le h0
  have b2 : 10 ≤ m / d ↔ 10 * d ≤ m := Int.le_ediv_iff_mul_le h0
  by_cases h3 : 100 * d ≤ m
  · rw [expo2 h3, if_pos (b1.mpr h3)]; rfl
  · by_cases h4 : 10 * d ≤ m
    · rw [expo1 h3 h4, if_neg (fun h => h3 (b1.mp h)), if_pos (b2.mpr h4)]; rfl
    · rw [expo0 h0 h4 h1, if_neg (fun h => h3 (b1.mp h)), if_neg (fun h => h4 (b2.mp h))]; rfl
section
variable {C : Ctx} {σ : Store} {X : XP} {Q : D → Store → Prop}
set_option maxHeartbeats 0 in
theorem short_law {x : It} {k : Int} (hf : 4 ≤ C.fuel) (hg : Good x) (hk : 0 ≤ k ∧ k ≤ 11) (q : Q (vSig k x).d σ) : CallD C (.ref 401) [x.d, .int k] σ Q X := by
  refine call2 rfl rfl (by omega) (fun _ _ _ => BindsTo.of_eq rfl) rfl rfl (fun L' => ?_) rfl rfl rfl (by decide)
  have hg' := hg
  rcases x with _ | ⟨n, d⟩ <;> dsimp only [It.d, vSig, Good] at q hg ⊢
  · repeat' tb_rel
    exact q
  by_cases hz : d = 0 ∨ n = 0
  · rw [if_neg (by omega)] at q
    repeat' tb_rel
    all_goals first | (exfalso; omega) | exact q
  have hd : 0 < d := by omega
  have hn : n ≠ 0 := by omega
  rw [if_pos ⟨hd, hn⟩] at q
  have rest : ∀ (z : Int) (ρ : Rho), z = expo (if n < 0 then -n else n) d → ρ.lookup (Str.ofString "place") = some (.int z) → ρ.lookup (Str.ofString "x") = some (.tup [.int n, .int d]) → ρ.lookup (Str.ofString "digits") = some (.int k) →
      Exs (C.enter (envOf (Str.ofString "_law_shortened") S401 L' 401 (.ref 400)) [L'] (C.fuel - 1)) (envOf (Str.ofString "_law_shortened") S401 L' 401 (.ref 400)) ρ (List.drop 3 B401) σ (Back Q) X := by
    intro z ρ hz e1 e2 e3
    have he : -3 ≤ z ∧ z ≤ 2 := hz ▸ expo_bound
    rw [← hz] at q
    have hk1 : ∃ u : Int, u = (if 1 > k then 1 else k) := ⟨_, rfl⟩
    obtain ⟨u, hu⟩ := hk1
    have hu2 : u = (if k > 1 then k else 1) := by rw [hu]; repeat' (first | omega | split)
    rw [← hu2] at q
    have hu3 : 0 ≤ u ∧ u ≤ 11 := by rw [hu]; split <;> omega
    have hu : Eqn u (if 1 > k then 1 else k) := hu
    dsimp only [List.drop]
    repeat' first
      | with_reducible refine ev_name e1 ?_ (by decide)
      | with_reducible refine ev_name e2 ?_ (by decide)
      | with_reducible refine ev_name e3 ?_ (by decide)
      | with_reducible refine max_eq hu ?_
      | tb_rel
    refine rounded_law (x := some (n, d)) (by ktr_room) hg' (by omega) ?_
    dsimp only [vRound]
    rw [if_pos hd]
    exact q
  dsimp only [List.drop] at rest
  have hm : ∃ m : Int, m = (if n < 0 then -n else n) := ⟨_, rfl⟩
  obtain ⟨m, hm⟩ := hm
  have hm1 : 0 < m ∧ m < 484 := by rw [hm]; split <;> omega
  rw [← hm] at rest
  have rest2 : Exs (C.enter (envOf (Str.ofString "_law_shortened") S401 L' 401 (.ref 400)) [L'] (C.fuel - 1)) (envOf (Str.ofString "_law_shortened") S401 L' 401 (.ref 400)) [(Str.ofString "size", .int m), (Str.ofString "digits", .int k), (Str.ofString "x", .tup [.int n, .int d])] (List.drop 2 B401) σ (Back Q) X := by
    dsimp only [List.drop]
    repeat' first | with_reducible refine rest _ _ ?_ rfl rfl rfl | with_reducible refine str_i (by have := Int.ediv_le_self d (show 0 ≤ m by omega); have := Int.ediv_nonneg (show 0 ≤ m by omega) (show 0 ≤ d by omega); omega) ?_ | tb_rel
    · have a1 : 1 ≤ m / d := (Int.le_ediv_iff_mul_le hd).mpr (by omega)
      have a2 := Int.ediv_le_self d (show 0 ≤ m by omega)
      have hlen := figs_expo hd (by omega : d ≤ m) hm1.2
      have he := expo_bound (m := m) (d := d)
      refine len_s (by omega) ?_
      repeat' first | with_reducible refine rest _ _ hlen rfl rfl rfl | tb_rel
    · refine ex_while (fun j ρ s2 => s2 = σ ∧ ∃ z : Int, ρ = [(Str.ofString "place", .int z), (Str.ofString "size", .int m), (Str.ofString "digits", .int k), (Str.ofString "x", .tup [.int n, .int d])] ∧ j = (z + 4).toNat ∧ ((z = -1 ∧ ten (-z) = 10) ∨ (z = -2 ∧ ten (-z) = 100 ∧ 10 * m < d) ∨ (z = -3 ∧ ten (-z) = 1000 ∧ 100 * m < d))) (ρ₀ := [(Str.ofString "place", .int (-1)), (Str.ofString "size", .int m), (Str.ofString "digits", .int k), (Str.ofString "x", .tup [.int n, .int d])]) (n := 3) ?_ ⟨rfl, -1, rfl, rfl, .inl ⟨rfl, rfl⟩⟩ ?_
      · intro p hp
        simp at hp
        rcases hp with rfl | rfl | rfl | rfl <;> rfl
      rintro j ρ s2 ⟨rfl, z, rfl, rfl, hc⟩
      have hw : (z = -1 ∧ m * ten (-z) = 10 * m) ∨ (z = -2 ∧ m * ten (-z) = 100 * m ∧ 10 * m < d) ∨ (z = -3 ∧ m * ten (-z) = 1000 * m ∧ 100 * m < d) := by
        rcases hc with ⟨h1, h2⟩ | ⟨h1, h2, h3⟩ | ⟨h1, h2, h3⟩ <;> rw [h2]
        · exact .inl ⟨h1, by omega⟩
        · exact .inr (.inl ⟨h1, by omega, h3⟩)
        · exact .inr (.inr ⟨h1, by omega, h3⟩)
      repeat' first | with_reducible refine rest _ _ ?_ rfl rfl rfl | with_reducible refine use_bin (pow_ten (by omega) (by omega)) ?_ | tb_rel
      · refine ⟨(z - 1 + 4).toNat, by omega, [(Str.ofString "place", .int (z - 1)), (Str.ofString "size", .int m), (Str.ofString "digits", .int k), (Str.ofString "x", .tup [.int n, .int d])], ?_, rfl, _, rfl, rfl, ?_⟩
        · intro p hp
          simp at hp
          rcases hp with rfl | rfl | rfl | rfl <;> rfl
        · have : z = -1 ∨ z = -2 := by omega
          rcases this with rfl | rfl
          · exact .inr (.inl ⟨rfl, rfl, by omega⟩)
          · exact .inr (.inr ⟨rfl, rfl, by omega⟩)
      · have hmd : m < d := by
          clear hw
          rcases hc with ⟨rfl, _⟩ | ⟨rfl, _, h3⟩ | ⟨rfl, _, h3⟩ <;> omega
        rw [expoN hd hmd]
        clear hc
        rcases hw with ⟨rfl, h2⟩ | ⟨rfl, h2, h3⟩ | ⟨rfl, h2, h3⟩
        · rw [if_pos (by omega)]
        · rw [if_neg (by omega), if_pos (by omega)]
        · rw [if_neg (by omega), if_neg (by omega)]
  dsimp only [List.drop] at rest2
  refine ex_cons ?_
  repeat' first | (rw [← hm]; with_reducible exact rest2) | tb_rel
end

end
section
def At.seen : At → D
  | none => .dict [] []
  | some l => .dict (l.map (·.1)) (l.map fun p => .tup [.str (Str.ofString "character"), .lst (p.2.map .str)])
theorem fld_at {f : Str × List Str → D} {p : Str × List Str} : ∀ {l : List (Str × List Str)}, (l.map (·.1)).Nodup → p ∈ l → fld p.1 (l.map (·.1)) (l.map f) = some (f p)
  | r :: l, hn, hm => by
    rw [List.map_cons, List.nodup_cons] at hn
    rw [List.map_cons, List.map_cons]
    unfold fld
    rcases List.mem_cons.mp hm with rfl | hm
    · rw [if_pos rfl]
    · rw [if_neg (fun z => hn.1 (List.mem_map.mpr ⟨p, hm, z.symm⟩))]
      exact fld_at hn.2 hm
theorem At.seen_kin {a : At} (h : a.ok) : a.seen.kin = true := by
  cases a with
  | none => decide
  | some l =>
    obtain ⟨h1, h2, h3⟩ := h
    have k1 : ∀ {l : List (Str × List Str)}, (∀ p ∈ l, p.2.length ≤ 10 ∧ D.plains (p.2.map .str) = true) → D.plains (l.map fun p => .tup [.str (Str.ofString "character"), .lst (p.2.map .str)]) = true ∧ PyData.depthAll (D.pys (l.map fun p => .tup [.str (Str.ofString "character"), .lst (p.2.map .str)])) ≤ 10 := by
      intro l
      induction l with
      | nil => intro _; exact ⟨rfl, by simp [D.pys, PyData.depthAll]⟩
      | cons p l ih =>
        intro h
        obtain ⟨i1, i2⟩ := ih fun q hq => h q (.tail _ hq)
        have ds : ∀ ss : List Str, PyData.depthAll (D.pys (ss.map .str)) ≤ 1 := by
          intro ss
          induction ss with
          | nil => simp [D.pys, PyData.depthAll]
          | cons x ss ih =>
            simp only [List.map_cons, D.pys, D.py, PyData.depthAll, PyData.depth]
            omega
        have := ds p.2
        refine ⟨?_, ?_⟩
        · simp only [List.map_cons, D.plains, D.plain, Bool.and_eq_true, Bool.true_and, Bool.and_true]
          exact ⟨⟨by decide +kernel, (h p (.head _)).2⟩, i1⟩
        · simp only [List.map_cons, D.pys, D.py, PyData.depthAll, PyData.depth]
          omega
    obtain ⟨b1, b2⟩ := k1 h3
    simp only [At.seen, D.kin, Bool.and_eq_true, decide_eq_true_eq]
    exact ⟨⟨h1, b1⟩, by omega⟩
section
variable {C : Ctx} {σ : Store} {X : XP} {Q : D → Store → Prop}
theorem sub_dictR {value slice : Expr} {ks : List Str} {ds : List D} {x : Str} {d : D} (hn : ks.Nodup) (hd : fld x ks ds = some d) (hs : ∀ t u, subscripted slice false (.ref t) (.str x u) = operate [.ref t, .str x u] (getItem (.ref t) (.str x u))) : BinD C σ (subscriptTail value slice) (.dict ks ds) (.str x) d := by
  refine ⟨fun s va vb g ra rb => ?_⟩
  cases rb
  cases ra with
  | dict hz he hk hr =>
    rename_i u a es n
    obtain ⟨v, h1, h2⟩ := valueAt_fld hk hr hd
    have hD := dictOf_of (prog := C.prog) (vw_some.mp he).2.2 hk hn
    exact Pure1.here fun Q E k => subscriptTail_builtinR (x := v) hD.typeIs slot_dict_getitem.lookup (wpAny_getItem_of (knd := PySem.strKind C.prog C.w) (k := x) (by show Value.isStrOf x (.str x u) = true; simp [Value.isStrOf]) hD.mapOf h1 ⟨rfl, k v _ h2⟩) (hs _ _)
theorem is_none_dict {ks : List Str} {ds : List D} : BinD C σ (compareOp .Is) (.dict ks ds) .none (.bool false) := is_n trivial
theorem seen_spec {k : Str} {ds : List D} {a : At} (hf : 1 ≤ C.fuel) (ha : a.ok) (q : Q a.seen σ) : CallD C (.ref 363) [vec k ds a.d] σ Q X := by
  refine call1C rfl rfl (by omega) (fun _ _ => BindsTo.of_eq rfl) (fun _ => .inr ⟨rfl, rfl⟩) (fun L' => ?_) rfl rfl rfl (by decide)
  rcases a with _ | l <;> dsimp only [At.d, At.seen] at q ⊢
  · repeat' first | with_reducible refine ev_dict0 ?_ | tb_rel
    exact q
  · obtain ⟨h1, h2, h3⟩ := ha
    repeat' first | with_reducible refine use_binB is_none_dict ?_ | tb_rel
    refine ev_dcomp (cl := [(Str.ofString "v", L' + 1)]) (fun _ => rfl) rfl (by decide) rfl (by decide) rfl (fun y c e => ?_) (fun p hp => ?_) rfl rfl rfl ?_
    · rw [List.lookup_cons] at e
      split at e
      · cases e
        rename_i z
        rw [beq_iff_eq] at z
        subst z; rfl
      · cases e
    · rw [List.mem_singleton.mp hp]
      exact .head _
    repeat' tb_rel
    refine ⟨(l.map (·.1)).map .str, by rw [List.length_map, List.length_map]; omega, walk_dict h1, [(Str.ofString "v", vec k ds (.dict (l.map (·.1)) (l.map fun p => chars p.2)))], (by intro p hp; simp at hp; rcases hp with rfl; exact ⟨rfl, .inl rfl, .inl rfl, rfl⟩),
      fun i ks acc σ' => σ' = σ ∧ ks = (l.take i).map (·.1) ∧ acc = (l.take i).map fun p => .tup [.str (Str.ofString "character"), .lst (p.2.map .str)], ⟨rfl, rfl, rfl⟩, ?_, ?_⟩
    · rintro i d ks acc new L σ' hd ⟨rfl, rfl, rfl⟩
      rw [List.map_map, List.getElem?_map] at hd
      cases hp : l[i]? with
      | none => rw [hp] at hd; cases hd
      | some p =>
        rw [hp] at hd
        cases hd
        have hmem : p ∈ l := List.mem_of_getElem? hp
        have hfl := fld_at (f := fun p => chars p.2) h1 hmem
        have hlen := (h3 p hmem).1
        dsimp only [Function.comp]
        repeat' tb_rel
        refine ⟨p.1, rfl, ?_, ?_⟩
        · intro hm
          have h4 : ((l.take i).map (·.1) ++ [p.1]).Nodup := by
            have h5 := h1.sublist ((List.take_sublist (i + 1) l).map (·.1))
            rw [List.take_add_one, hp] at h5
            simpa using h5
          rw [List.nodup_append] at h4
          exact h4.2.2 _ hm _ (List.mem_singleton.mpr rfl) rfl
        repeat' first | with_reducible refine use_bin (sub_dictR h1 hfl (fun _ _ => rfl)) ?_ | with_reducible refine list_copy (by rw [List.length_map]; omega) ?_ | tb_rel
        refine ⟨rfl, ?_, ?_⟩
        · rw [List.take_add_one, hp]
          simp
        · rw [List.take_add_one, hp]
          simp
    · rintro ks acc σ' ⟨rfl, rfl, rfl⟩
      rw [List.length_map, List.length_map, List.take_length]
      repeat' tb_rel
      exact q
end

end
section
noncomputable abbrev lEnv (L' : Addr) : Env := envOfC (Str.ofString "law") S406 L' 406 (.ref 405)
noncomputable abbrev lCtx (C : Ctx) (L' : Addr) : Ctx := C.enter (lEnv L') (ownOf (lEnv L')) (C.fuel - 1)
theorem ev_kept' {C : Ctx} {env : Env} {ρ ρ2 : Rho} {σ : Store} {X : XP} {params : Arguments} {body : Expr} {scope : Scope} {lp p pos : Pos} {c P : Addr} {ps : Array Value} {clos : List (Str × Addr)} {Q : D → Store → Prop}
    (hσ : σ P = some (.tab ps)) (ht : TriplesOk ps.toList) (hnf : codeAmong lp ps.toList = none) (hfu : 2 ≤ C.fuel)
    (hk : env.kindOf "_law_kept" = some .globalImplicit) (hcode : env.code = .ref c) (hhd : codeHdIn C.K c P = true)
    (hclos : closureFor scope env = pure clos) (hdef : defaultsOf params env = ([], [])) (hpar : ∀ qual pm cd ct, bindArgs (kla_fn "<lambda>" qual params body scope clos pm cd ct) ⟨[], []⟩ = pure [])
    (hcell : ∀ x ∈ scope.names, x.2 ≠ .cell) (hkd : scope.kind = .function) (hco : scope.isCoroutine = false) (hgen : scope.isGenerator = false)
    (hcl : ∀ p ∈ clos, env.cells.lookup p.1 = some p.2)
    (hcap : ∀ q ∈ ρ2, ρ.lookup q.1 = some q.2 ∧ (env.kindOf q.1 = some .cell ∨ env.kindOf q.1 = some .free) ∧ scope.names.lookup q.1 = some .free ∧ (q.1 == ("__classdict__" : Str)) = false ∧ clos.lookup q.1 = env.cells.lookup q.1)
    (he1 : starEach [.Lambda params body scope lp] env = (false, eval (.Lambda params body scope lp) env) :: starEach [] env)
    (h : ∀ L1 L2 f c', Ev (keptCtx C env scope L1 L2 f c' clos) (lamEnv env scope L2 f c' clos) ρ2 body (σ.set P (.tab (ps ++ #[rawInt lp.line, rawInt lp.col, .ref c']))) Q (fun msg σ' => Q (.str msg) σ')) :
    Ev C env ρ (.Call (.Name "_law_kept" p) [.Lambda params body scope lp] [] pos) σ Q X :=
  ev_kept hk hcode hhd hσ ht hnf hclos hdef hpar hfu hcell hkd hco hgen (fun y c e => hcl _ (lookup_pair e)) (fun q hq => lookup_mem (hcl q hq)) hcap he1 h
theorem Kd.kin {k : Kd} : (D.str k.str).kin = true := by cases k <;> decide +kernel
abbrev heldD (k : Kd) (ds : List D) (a : At) : D := .tup [.str k.str, .lst ds, a.seen]
theorem held_kin {k : Kd} {ds : List D} {a : At} (ha : a.ok) (hd : (D.lst ds).kin = true) : [D.str k.str, .lst ds, a.seen].all D.kin = true := by
  rw [List.all_cons, List.all_cons, List.all_cons, List.all_nil, Kd.kin, hd, At.seen_kin ha]
  rfl
section
variable {C : Ctx} {σ : Store} {X : XP} {Q : D → Store → Prop}
theorem ne_seen {a : At} (ha : a.ok) : BinD C σ (compareOp .NotEq) a.seen a.seen (.bool false) := by
  have := At.seen_kin ha
  cases a <;> exact ne_dict this
set_option maxHeartbeats 0 in
theorem law3 {L' : Addr} {nm : Nm} {k : Kd} {ds : List D} {a : At} {p : Int} {c0 : Addr} (hf : 9 ≤ C.fuel) (ha : a.ok) (hd : (D.lst ds).kin = true) (hl : ds.length ≤ 10) (hσ : σ 403 = some (.tab #[rawInt 388, rawInt 21, .ref c0])) (q : ∀ σ' ps, σ' 403 = some (.tab ps) → Q (.bool true) σ') :
    Exs (lCtx C L') (lEnv L') [(Str.ofString "places", .int p), (Str.ofString "held", heldD k ds a), (Str.ofString "v", vec k.str ds a.d), (Str.ofString "name", .str nm.str)] (List.drop 18 B406) σ (Back Q) X := by
  dsimp only [List.drop]
  refine ex_cons (ex_assign (.inr ⟨rfl, rfl⟩) (Q := After _ _ _ _ _) (Jd.mono (Q := fun d s => d = chars [Str.ofString "1"] ∧ s = σ) ?_ ?_ fun _ _ x => x) rfl)
  · repeat' first | with_reducible refine vec_frz (by ktr_room) ?_ | tb_rel
    exact ⟨rfl, rfl⟩
  rintro _ _ ⟨rfl, rfl⟩
  refine after_next (ex_cons (ex_if (tst_cmp ?_ (by rfl))))
  refine ev_kept' (ρ2 := [(Str.ofString "name", .str nm.str), (Str.ofString "words", chars [Str.ofString "1"])]) hσ (by exact trivial) (by rfl) (by ktr_room) rfl rfl rfl rfl rfl (fun _ _ _ _ => rfl) (by decide) rfl rfl rfl (by intro p hp; simp at hp; rcases hp with rfl | rfl <;> rfl) (by intro p hp; simp at hp; rcases hp with rfl | rfl <;> exact ⟨rfl, .inl rfl, rfl, rfl, rfl⟩) rfl (fun L1 L2 f c' => ?_)
  repeat' first
    | with_reducible refine math1_bad (by ktr_room) ?_
    | with_reducible refine round_bad (by ktr_room) ?_
    | with_reducible refine seen_spec (by ktr_room) ha ?_
    | (with_reducible show Jd _ _ (eval (.Call (.Name _ _) [.Lambda _ _ _ _] [] _) _) _ _ _ _ _); refine ev_kept' (ρ2 := [(Str.ofString "words", chars [Str.ofString "1"]), (Str.ofString "places", .int p)]) Store.set_self (by exact trivial) (by rfl) (by ktr_room) (by rfl) (by rfl) (by rfl) (by rfl) (by rfl) (fun _ _ _ _ => by rfl) (by decide) (by rfl) (by rfl) (by rfl) (by intro p hp; simp at hp; rcases hp with rfl | rfl <;> rfl) (by intro p hp; simp at hp; rcases hp with rfl | rfl <;> exact ⟨rfl, .inl rfl, rfl, rfl, rfl⟩) (by rfl) (fun L1 L2 f c' => ?_)
    | tb_rel
  refine use_bin (eq_same (held_kin ha hd)) ?_
  repeat' tb_rel
  exact q _ _ Store.set_self
end

end
section
theorem its_plain : ∀ {xs : List It}, D.plains (xs.map It.d) = true ∧ PyData.depthAll (D.pys (xs.map It.d)) ≤ 2
  | [] => ⟨rfl, by simp [D.pys, PyData.depthAll]⟩
  | x :: xs => by
    obtain ⟨h1, h2⟩ := its_plain (xs := xs)
    rcases x with _ | ⟨n, d⟩
    · simp only [List.map_cons, It.d, D.plains, D.plain, D.pys, D.py, PyData.depthAll, PyData.depth]
      exact ⟨by rw [h1]; rfl, by omega⟩
    · simp only [List.map_cons, It.d, D.plains, D.plain, D.pys, D.py, PyData.depthAll, PyData.depth]
      exact ⟨by rw [h1]; rfl, by omega⟩
theorem wis_plain : ∀ {is : List (Option Int)}, D.plains (is.map wi) = true ∧ PyData.depthAll (D.pys (is.map wi)) ≤ 2
  | [] => ⟨rfl, by simp [D.pys, PyData.depthAll]⟩
  | x :: xs => by
    obtain ⟨h1, h2⟩ := wis_plain (is := xs)
    cases x
    · simp only [List.map_cons, wi, D.plains, D.plain, D.pys, D.py, PyData.depthAll, PyData.depth]
      exact ⟨by rw [h1]; rfl, by omega⟩
    · simp only [List.map_cons, wi, D.plains, D.plain, D.pys, D.py, PyData.depthAll, PyData.depth]
      exact ⟨by rw [h1]; rfl, by omega⟩
theorem lst_kin {ds : List D} (h : D.plains ds = true ∧ PyData.depthAll (D.pys ds) ≤ 2) : (D.lst ds).kin = true := by
  simp only [D.kin, D.plain, D.py, PyData.depth, Bool.and_eq_true, decide_eq_true_eq]
  exact ⟨h.1, by omega⟩
theorem Drawn.kin {k : Kd} {ds : List D} {xs : List It} (h : Drawn k ds xs) : (D.lst ds).kin = true := by
  cases h with
  | whole _ _ _ => exact lst_kin wis_plain
  | dbl _ _ => exact lst_kin its_plain
theorem Drawn.doubles {k : Kd} {ds : List D} {xs : List It} {a : D} (h : Drawn k ds xs) (C : Ctx) (σ : Store) (X : XP) (Q : D → Store → Prop) (hf : 2 ≤ C.fuel) (q : Q (.lst (xs.map It.d)) σ) : CallD C (.ref 266) [vec k.str ds a] σ Q X := by
  cases h with
  | whole h1 h2 _ => exact doubles_whole h1 hf (by omega) q
  | dbl h1 _ => exact doubles_dbl (by omega) (by rw [List.length_map]; omega) q
theorem pair_kin {s : Str} {ds : List D} (hs : (D.str s).kin = true) (h : (D.lst ds).kin = true) : [D.str s, .lst ds].all D.kin = true := by
  rw [List.all_cons, List.all_cons, List.all_nil, hs, h]; rfl
section
variable {C : Ctx} {σ : Store} {X : XP} {Q : D → Store → Prop}
set_option maxHeartbeats 0 in
theorem law2 {L' : Addr} {nm : Nm} {k : Kd} {ds : List D} {xs : List It} {a : At} {p dg : Int} {c0 : Addr} (hf : 9 ≤ C.fuel) (ha : a.ok) (hD : Drawn k ds xs) (hdg : 0 ≤ dg ∧ dg ≤ 11) (hσ : σ 403 = some (.tab #[rawInt 388, rawInt 21, .ref c0])) (q : ∀ σ' ps, σ' 403 = some (.tab ps) → Q (.bool true) σ') :
    Exs (lCtx C L') (lEnv L') [(Str.ofString "digits", .int dg), (Str.ofString "whole_kind", .bool (!(k.str == Str.ofString "double"))), (Str.ofString "places", .int p), (Str.ofString "xs", .lst (xs.map It.d)), (Str.ofString "held", heldD k ds a), (Str.ofString "v", vec k.str ds a.d), (Str.ofString "name", .str nm.str)] (List.drop 15 B406) σ (Back Q) X := by
  have hl := hD.len
  have rest := law3 (C := C) (L' := L') (X := X) (nm := nm) (k := k) (p := p) hf ha hD.kin (by omega) hσ q
  dsimp only [List.drop] at rest
  dsimp only [List.drop]
  by_cases hc : k ≠ .dbl ∧ 10 ≤ dg
  · have e2 := Kd.eqd hc.1
    rw [e2]
    repeat' first
      | with_reducible refine exs_weak (by unfold Weak; intro p hp; simp at hp; rcases hp with rfl | rfl | rfl | rfl <;> with_unfolding_all rfl) rest
      | with_reducible refine signif_whole hc.1 hc.2 (by ktr_room) (by omega) ha ?_
      | with_reducible refine seen_spec (by ktr_room) ha ?_
      | with_reducible refine use_binB (ne_same (pair_kin (by decide +kernel) hD.kin)) ?_
      | with_reducible refine use_binB (ne_seen ha) ?_
      | tb_rel
  · have hk : k = .dbl ∨ (k ≠ .dbl ∧ dg < 10) := by
      by_cases h : k = .dbl
      · exact .inl h
      · exact .inr ⟨h, (by
          rcases Int.lt_or_le dg 10 with h2 | h2
          · exact h2
          · exact absurd ⟨h, h2⟩ hc)⟩
    refine ex_cons (ex_assign (.inl rfl) (Q := After _ _ _ _ _) (Jd.mono (Q := fun d s => d = vec (Str.ofString "double") ((xs.map (vSig dg)).map It.d) a.d ∧ σ = s) ?_ ?_ fun _ _ x => x) rfl)
    · repeat' first
        | with_reducible refine signif_gen hk hdg (by ktr_room) (by omega) ha (fun x hx => (hD.good x hx).small) hD.doubles ?_
        | tb_rel
      exact ⟨rfl, rfl⟩
    rintro _ _ ⟨rfl, rfl⟩
    refine after_next (ex_cons (ex_if (Jd.mono (Q := fun b s => b = false ∧ σ = s) ?_ ?_ fun _ _ x => x)))
    · rcases hk with rfl | ⟨hk, h2⟩
      · have e2 := Kd.eqd1
        rw [e2]
        repeat' tb_rel
        exact ⟨rfl, rfl⟩
      · have e2 := Kd.eqd hk
        rw [e2]
        repeat' tb_rel
        exact ⟨rfl, rfl⟩
    rintro _ _ ⟨rfl, rfl⟩
    rw [if_neg (by decide)]
    repeat' tb_rel
    refine ev_listc ⟨rfl, by decide, rfl, by decide, rfl, (by intro p hp; simp at hp; rcases hp with rfl; rfl), ⟨_, _, _, rfl, rfl, rfl⟩⟩ (fun _ => rfl) ?_
    repeat' tb_rel
    refine ⟨xs.map It.d, by rw [List.length_map]; omega, walk_lst, turns_map (ρ' := [(Str.ofString "digits", .int dg)]) (fun d => some (vSig dg (itOf d)).d) (Str.ofString "") (by intro p hp; simp at hp; rcases hp with rfl; exact ⟨rfl, .inl rfl, .inl rfl, rfl⟩) (fun d hd new L Q' q' => ?_) ?_⟩
    · obtain ⟨x, hx, rfl⟩ := List.mem_map.mp hd
      rw [itOf_d] at q'
      repeat' tb_rel
      exact short_law (by ktr_room) (hD.good x hx) hdg q'
    · rw [mapM_some, map_it]
      dsimp only [Gots]
      repeat' first
        | with_reducible refine exs_weak (by unfold Weak; intro p hp; simp at hp; rcases hp with rfl | rfl | rfl | rfl <;> with_unfolding_all rfl) rest
        | with_reducible refine seen_spec (by ktr_room) ha ?_
        | with_reducible refine use_binB (ne_same (pair_kin (by decide +kernel) (lst_kin its_plain))) ?_
        | with_reducible refine use_binB (ne_seen ha) ?_
        | tb_rel
end

end
section
section
variable {C : Ctx} {σ : Store} {X : XP} {Q : D → Store → Prop}
set_option maxHeartbeats 0 in
theorem law1b {L' : Addr} {nm : Nm} {k : Kd} {ds : List D} {xs : List It} {a : At} {p dg : Int} {c0 : Addr} (hf : 9 ≤ C.fuel) (ha : a.ok) (hD : Drawn k ds xs) (hp : -3 ≤ p ∧ p ≤ 3) (hdg : 0 ≤ dg ∧ dg ≤ 11) (hσ : σ 403 = some (.tab #[rawInt 388, rawInt 21, .ref c0])) (q : ∀ σ' ps, σ' 403 = some (.tab ps) → Q (.bool true) σ') :
    Exs (lCtx C L') (lEnv L') [(Str.ofString "whole_kind", .bool (!(k.str == Str.ofString "double"))), (Str.ofString "digits", .int dg), (Str.ofString "places", .int p), (Str.ofString "xs", .lst (xs.map It.d)), (Str.ofString "held", heldD k ds a), (Str.ofString "v", vec k.str ds a.d), (Str.ofString "name", .str nm.str)] (List.drop 12 B406) σ (Back Q) X := by
  have hl := hD.len
  have rest := law2 (C := C) (L' := L') (X := X) (nm := nm) (k := k) (p := p) hf ha hD hdg hσ q
  dsimp only [List.drop] at rest
  dsimp only [List.drop]
  by_cases hc : k ≠ .dbl ∧ 0 ≤ p
  · have e2 := Kd.eqd hc.1
    rw [e2] at rest ⊢
    repeat' first
      | with_reducible refine exs_weak (by unfold Weak; intro p hp; simp at hp; rcases hp with rfl | rfl | rfl | rfl | rfl | rfl | rfl <;> with_unfolding_all rfl) rest
      | with_reducible refine round_whole hc.1 hc.2 (by ktr_room) (by omega) ha ?_
      | with_reducible refine seen_spec (by ktr_room) ha ?_
      | with_reducible refine use_binB (ne_same (pair_kin (by decide +kernel) hD.kin)) ?_
      | with_reducible refine use_binB (ne_seen ha) ?_
      | tb_rel
  · have hk : k = .dbl ∨ (k ≠ .dbl ∧ p < 0) := by
      by_cases h : k = .dbl
      · exact .inl h
      · exact .inr ⟨h, (by
          rcases Int.lt_or_le p 0 with h2 | h2
          · exact h2
          · exact absurd ⟨h, h2⟩ hc)⟩
    refine ex_cons (ex_assign (.inl rfl) (Q := After _ _ _ _ _) (Jd.mono (Q := fun d s => d = vec (Str.ofString "double") ((xs.map (vRound p)).map It.d) a.d ∧ σ = s) ?_ ?_ fun _ _ x => x) rfl)
    · repeat' first
        | with_reducible refine round_gen hk (by omega) (by ktr_room) (by omega) ha (fun x hx => (hD.good x hx).small) hD.doubles ?_
        | tb_rel
      exact ⟨rfl, rfl⟩
    rintro _ _ ⟨rfl, rfl⟩
    refine after_next (ex_cons (ex_if (Jd.mono (Q := fun b s => b = false ∧ σ = s) ?_ ?_ fun _ _ x => x)))
    · rcases hk with rfl | ⟨hk, h2⟩
      · have e2 := Kd.eqd1
        rw [e2]
        repeat' tb_rel
        exact ⟨rfl, rfl⟩
      · have e2 := Kd.eqd hk
        rw [e2]
        repeat' tb_rel
        exact ⟨rfl, rfl⟩
    rintro _ _ ⟨rfl, rfl⟩
    rw [if_neg (by decide)]
    repeat' tb_rel
    refine ev_listc ⟨rfl, by decide, rfl, by decide, rfl, (by intro p hp; simp at hp; rcases hp with rfl; rfl), ⟨_, _, _, rfl, rfl, rfl⟩⟩ (fun _ => rfl) ?_
    repeat' tb_rel
    refine ⟨xs.map It.d, by rw [List.length_map]; omega, walk_lst, turns_map (ρ' := [(Str.ofString "places", .int p)]) (fun d => some (vRound p (itOf d)).d) (Str.ofString "") (by intro p hp; simp at hp; rcases hp with rfl; exact ⟨rfl, .inl rfl, .inl rfl, rfl⟩) (fun d hd new L Q' q' => ?_) ?_⟩
    · obtain ⟨x, hx, rfl⟩ := List.mem_map.mp hd
      rw [itOf_d] at q'
      repeat' tb_rel
      exact rounded_law (by ktr_room) (hD.good x hx) (by omega) q'
    · rw [mapM_some, map_it]
      dsimp only [Gots]
      repeat' first
        | with_reducible refine exs_weak (by unfold Weak; intro p hp; simp at hp; rcases hp with rfl | rfl | rfl | rfl | rfl | rfl | rfl <;> with_unfolding_all rfl) rest
        | with_reducible refine seen_spec (by ktr_room) ha ?_
        | with_reducible refine use_binB (ne_same (pair_kin (by decide +kernel) (lst_kin its_plain))) ?_
        | with_reducible refine use_binB (ne_seen ha) ?_
        | tb_rel
set_option maxHeartbeats 0 in
theorem law1 {L' r : Addr} {nm : Nm} {k : Kd} {ds : List D} {xs : List It} {a : At} {c0 : Addr} {σ₀ : Store} (hf : 9 ≤ C.fuel) (ha : a.ok) (hD : Drawn k ds xs) (hr : RowS σ₀ r σ) (hr4 : 403 ≠ r) (hσ : σ 403 = some (.tab #[rawInt 388, rawInt 21, .ref c0])) (q : ∀ σ' ps, σ' 403 = some (.tab ps) → Q (.bool true) σ') :
    Exs (lCtx C L') (lEnv L') [(Str.ofString "xs", .lst (xs.map It.d)), (Str.ofString "held", heldD k ds a), (Str.ofString "v", vec k.str ds a.d), (Str.ofString "name", .str nm.str), (Str.ofString "row", .mut r)] (List.drop 9 B406) σ (Back Q) X := by
  have hl := hD.len
  have rest := fun {s : Store} {i j : Int} (rs : RowS σ r s) => law1b (C := C) (L' := L') (X := X) (nm := nm) (k := k) (p := i % 7 - 3) (dg := j % 12) (σ := s) hf ha hD (by omega) (by omega) (rs.keep hr4 hσ) q
  dsimp only [List.drop] at rest
  have hself := hr.self
  dsimp only [List.drop]
  repeat' first
    | with_reducible refine exs_weak ?_ (rest (by assumption))
    | with_reducible refine next_spec (by ktr_room) (by assumption) (fun _ _ _ _ _ => ?_)
    | tb_rel
  refine use_bin (ne_ss Kd.ok (by decide +kernel)) ?_
  rename_i i1 s1 _ _ r1 i2 s2 _ _ r2
  refine after_next (exs_weak ?_ (rest (i := i1) (j := i2) r2))
  intro p hp
  simp at hp
  rcases hp with rfl | rfl | rfl | rfl | rfl | rfl | rfl <;> rfl
end

end
section
abbrev dues (nm : Nm) (xs : List It) : List D := xs.map fun x => due1 (vMath nm x)
theorem dues_plain {nm : Nm} : ∀ {xs : List It}, D.plains (dues nm xs) = true
  | [] => rfl
  | x :: xs => by
    rw [dues, List.map_cons, D.plains, Bool.and_eq_true]
    refine ⟨?_, dues_plain⟩
    cases vMath nm x with
    | none => decide +kernel
    | some y => rcases y with _ | ⟨n, d⟩ <;> rfl
theorem no_in {nm : Nm} : ∀ {xs : List It}, ((D.pys (dues nm xs)).any fun y => PyData.eqv y (D.str (Str.ofString "no")).py) = (xs.mapM (vMath nm)).isNone
  | [] => rfl
  | x :: xs => by
    rw [dues, List.map_cons, D.pys, List.any_cons, List.mapM_cons]
    have ih := no_in (nm := nm) (xs := xs)
    rw [ih]
    cases hx : vMath nm x with
    | none =>
      have : PyData.eqv (due1 (none : Option It)).py (D.str (Str.ofString "no")).py = true := by decide +kernel
      rw [this]; rfl
    | some y =>
      have : PyData.eqv (due1 (some y)).py (D.str (Str.ofString "no")).py = false := by
        rcases y with _ | ⟨n, d⟩ <;> rfl
      rw [this, Bool.false_or]
      cases xs.mapM (vMath nm) <;> rfl
theorem dues_some {nm : Nm} : ∀ {xs ys : List It}, xs.mapM (vMath nm) = some ys → dues nm xs = ys.map It.d
  | [], ys, h => by
    simp at h
    subst h; rfl
  | x :: xs, ys, h => by
    rw [List.mapM_cons] at h
    cases hx : vMath nm x with
    | none => rw [hx] at h; cases h
    | some y =>
      rw [hx] at h
      cases hy : xs.mapM (vMath nm) with
      | none => rw [hy] at h; cases h
      | some zs =>
        rw [hy] at h
        cases h
        have := dues_some hy
        rw [dues] at this ⊢
        rw [List.map_cons, List.map_cons, hx, this]
        rfl
section
variable {C : Ctx} {σ : Store} {X : XP} {Q : D → Store → Prop}
theorem eq_it {x : It} : BinD C σ (compareOp .Eq) x.d (.tup [.int 0, .int 0]) (.bool x.isNan) := by
  rcases x with _ | ⟨n, d⟩
  · exact eq_dd (a := .none) (b := .tup [.int 0, .int 0]) rfl rfl (by decide) (by decide)
  · have := eq_tt (C := C) (σ := σ) (a := n) (b := d) (c := 0) (d := 0)
    have e : (n == 0 && d == 0) = It.isNan (some (n, d)) := by
      rw [It.isNan, Bool.eq_iff_iff]; simp
    rw [e] at this
    exact this
theorem ne_it {x : It} : BinD C σ (compareOp .NotEq) x.d (.tup [.int 0, .int 0]) (.bool (!x.isNan)) := by
  rcases x with _ | ⟨n, d⟩
  · exact ne_dd (a := .none) (b := .tup [.int 0, .int 0]) rfl rfl (by decide) (by decide)
  · have := ne_tt (C := C) (σ := σ) (a := n) (b := d) (c := 0) (d := 0)
    have e : (n == 0 && d == 0) = It.isNan (some (n, d)) := by
      rw [It.isNan, Bool.eq_iff_iff]; simp
    rw [e] at this
    exact this
theorem eq_wi {o : Option Int} : BinD C σ (compareOp .Eq) (wi o) (.tup [.int 0, .int 0]) (.bool false) := by
  cases o with
  | none => exact eq_dd (a := .none) (b := .tup [.int 0, .int 0]) rfl rfl (by decide) (by decide)
  | some i => exact eq_dd (a := .int i) (b := .tup [.int 0, .int 0]) rfl rfl (by simp [D.py, PyData.depth]) (by decide)
abbrev tRho (nm : Nm) (k : Kd) (ds : List D) (xs : List It) (a : At) (n r : Addr) (t : D) (du : List D) : Rho := [(Str.ofString "told", t), (Str.ofString "notes", .mut n), (Str.ofString "due", .lst du), (Str.ofString "xs", .lst (xs.map It.d)), (Str.ofString "held", heldD k ds a), (Str.ofString "v", vec k.str ds a.d), (Str.ofString "name", .str nm.str), (Str.ofString "row", .mut r)]
set_option maxHeartbeats 0 in
theorem midB {L' r n : Addr} {nm : Nm} {k : Kd} {ds : List D} {xs : List It} {a : At} {c0 : Addr} {σ₀ : Store} (hf : 9 ≤ C.fuel) (ha : a.ok) (hD : Drawn k ds xs) (hr : RowS σ₀ r σ) (hr4 : 403 ≠ r) (hσ : σ 403 = some (.tab #[rawInt 388, rawInt 21, .ref c0]))
    (hm : xs.mapM (vMath nm) = none) (q : ∀ σ' ps, σ' 403 = some (.tab ps) → Q (.bool true) σ') :
    Exs (lCtx C L') (lEnv L') (tRho nm k ds xs a n r (.str (Str.ofString "result is not exact")) (dues nm xs)) (List.drop 8 B406) σ (Back Q) X := by
  have rest := law1 (C := C) (L' := L') (X := X) (nm := nm) (k := k) hf ha hD hr hr4 hσ q
  dsimp only [List.drop] at rest
  dsimp only [List.drop]
  repeat' first
    | with_reducible refine exs_weak (by unfold Weak; intro p hp; simp at hp; rcases hp with rfl | rfl | rfl | rfl | rfl <;> with_unfolding_all rfl) rest
    | with_reducible refine use_binB (in_lst (by decide +kernel) dues_plain (by decide)) ?_
    | rw [no_in, hm, if_pos (by rfl)]
    | tb_rel
end

end
section
/-- the spots where a mark is made anew -/
def spotC (ys xs : List It) : D → Bool
  | .int i => (match ys[i.toNat]?, xs[i.toNat]? with | some y, some x => y.isNan && !x.isNan | _, _ => false)
  | _ => false
theorem rngs_ints : ∀ {n : Nat} {a : Int}, ∃ is : List Int, rngs a n = is.map .int
  | 0, a => ⟨[], rfl⟩
  | n + 1, a => by
    obtain ⟨is, h⟩ := rngs_ints (n := n) (a := a + 1)
    exact ⟨a :: is, by rw [rngs, h]; rfl⟩
theorem filter_ints {p : D → Bool} {ds : List D} (h : ∃ is : List Int, ds = is.map .int) : ∃ is : List Int, ds.filter p = is.map .int := by
  obtain ⟨is, rfl⟩ := h
  exact ⟨is.filter (p ∘ .int), by rw [List.filter_map]⟩
theorem spots_any {ys xs : List It} (hl : ys.length = xs.length) : ((rngs 0 xs.length).filter (spotC ys xs)).isEmpty = !newNan ys xs := by
  rw [Bool.eq_iff_iff]
  rw [List.isEmpty_iff, List.filter_eq_nil_iff]
  unfold newNan
  rw [Bool.not_eq_true', ← Bool.not_eq_true, List.any_eq_true]
  constructor
  · rintro h ⟨⟨y, x⟩, hm, hp⟩
    obtain ⟨i, hi⟩ := List.getElem?_of_mem hm
    rw [List.getElem?_zip_eq_some] at hi
    have hlt : i < xs.length := by
      obtain ⟨h1, _⟩ := List.getElem?_eq_some_iff.mp hi.2
      exact h1
    have hmem : D.int i ∈ rngs 0 xs.length := by
      have := rngs_get (n := xs.length) (a := 0) hlt
      rw [Int.zero_add] at this
      exact List.mem_of_getElem? this
    refine h _ hmem ?_
    dsimp only [spotC]
    rw [Int.toNat_natCast, hi.1, hi.2]
    exact hp
  · intro h d hd hs
    obtain ⟨i, hi⟩ := List.getElem?_of_mem hd
    obtain ⟨hlt, rfl⟩ := rngs0 hi
    obtain ⟨y, hy⟩ : ∃ y, ys[i]? = some y := ⟨ys[i], by simp [hl, hlt]⟩
    obtain ⟨x, hx⟩ : ∃ x, xs[i]? = some x := ⟨xs[i], by simp [hlt]⟩
    dsimp only [spotC] at hs
    rw [Int.toNat_natCast, hy, hx] at hs
    exact h ⟨(y, x), List.mem_of_getElem? (List.getElem?_zip_eq_some.mpr ⟨hy, hx⟩), hs⟩
theorem seen3_kin {s : Str} {ds : List D} {a : At} (hs : (D.str s).kin = true) (ha : a.ok) (hd : (D.lst ds).kin = true) : [D.str s, .lst ds, a.seen].all D.kin = true := by
  rw [List.all_cons, List.all_cons, List.all_cons, List.all_nil, hs, hd, At.seen_kin ha]
  rfl
section
variable {C : Ctx} {σ : Store} {X : XP} {Q : D → Store → Prop}
set_option maxHeartbeats 0 in
theorem midC {L' r n : Addr} {nm : Nm} {k : Kd} {ds : List D} {xs ys : List It} {a : At} {c0 : Addr} {σ₀ : Store} (hk : nm ≠ .abs ∨ k = .dbl) (hf : 9 ≤ C.fuel) (ha : a.ok) (hD : Drawn k ds xs) (hr : RowS σ₀ r σ) (hr4 : 403 ≠ r) (hσ : σ 403 = some (.tab #[rawInt 388, rawInt 21, .ref c0]))
    (hm : xs.mapM (vMath nm) = some ys) (hn : σ n = some (.lst (if newNan ys xs = true then [.str (Str.ofString "NaNs produced")] else []))) (q : ∀ σ' ps, σ' 403 = some (.tab ps) → Q (.bool true) σ') :
    Exs (lCtx C L') (lEnv L') (tRho nm k ds xs a n r (vec (Str.ofString "double") (ys.map It.d) a.d) (dues nm xs)) (List.drop 8 B406) σ (Back Q) X := by
  have hlen := mapM_length hm
  have hl := hD.len
  have rest := law1 (C := C) (L' := L') (X := X) (nm := nm) (k := k) hf ha hD hr hr4 hσ q
  dsimp only [List.drop] at rest
  dsimp only [List.drop]
  have hno := no_in (nm := nm) (xs := xs)
  rw [hm] at hno
  refine ex_cons (ex_if (Jd.mono (Q := fun b s => b = false ∧ σ = s) ?_ ?_ fun _ _ x => x))
  · repeat' first
      | with_reducible refine use_binB (in_lst (by decide +kernel) dues_plain (by decide)) ?_
      | tb_rel
    exact ⟨hno, rfl⟩
  rintro _ _ ⟨rfl, rfl⟩
  rw [if_neg (by decide), dues_some hm]
  refine ex_cons (ex_assign (.inl rfl) (ev_str ?_) rfl)
  refine after_next (ex_cons (ex_if (Jd.mono (Q := fun b s => b = false ∧ σ = s) ?_ ?_ fun _ _ x => x)))
  · rcases hk with hk | rfl
    · have e1 := Nm.eqa hk
      repeat' tb_rel
      exact ⟨rfl, rfl⟩
    · have e2 := Kd.eqd1
      repeat' first | tb_rel | with_reducible refine ite_b (fun _ => ?_) (fun _ => ?_)
      all_goals exact ⟨rfl, rfl⟩
  rintro _ _ ⟨rfl, rfl⟩
  rw [if_neg (by decide)]
  refine ex_nil (after_next (ex_cons ?_))
  refine ex_listc ⟨rfl, by decide, rfl, by decide, rfl, (by intro p hp; simp at hp; rcases hp with rfl | rfl <;> rfl), ⟨_, _, _, rfl, rfl, rfl⟩⟩ (fun _ => rfl) rfl rfl ?_
  repeat' tb_rel
  refine ⟨rngs 0 xs.length, by rw [rngs_length]; omega, walk_rng (by rw [List.length_map]; omega) (by omega) (by rw [List.length_map]; omega), turns_filter (ρ' := [(Str.ofString "due", .lst (ys.map It.d)), (Str.ofString "xs", .lst (xs.map It.d))]) (spotC ys xs) (by intro p hp; simp at hp; rcases hp with rfl | rfl <;> exact ⟨rfl, .inl rfl, .inl rfl, rfl⟩) (fun e he new L Q' q' => ?_) (fun e he new L Q' q' => ?_) ?_⟩
  · obtain ⟨i, hi⟩ := List.getElem?_of_mem he
    obtain ⟨hi, rfl⟩ := rngs0 hi
    obtain ⟨y, hy⟩ : ∃ y, ys[i]? = some y := ⟨ys[i], by simp [hlen, hi]⟩
    obtain ⟨x, hx⟩ : ∃ x, xs[i]? = some x := ⟨xs[i], by simp [hi]⟩
    have hy' : (ys.map It.d)[(i : Int).toNat]? = some y.d := by rw [Int.toNat_natCast, List.getElem?_map, hy]; rfl
    have hx' : (xs.map It.d)[(i : Int).toNat]? = some x.d := by rw [Int.toNat_natCast, List.getElem?_map, hx]; rfl
    dsimp only [spotC] at q'
    rw [Int.toNat_natCast, hy, hx] at q'
    dsimp only at q'
    repeat' first
      | with_reducible refine use_bin (sub_lstR (by omega) (by omega) hy' (fun _ _ => rfl)) ?_
      | with_reducible refine use_bin (sub_lstR (by omega) (by omega) hx' (fun _ _ => rfl)) ?_
      | with_reducible refine use_binB eq_it ?_
      | with_reducible refine use_binB ne_it ?_
      | tb_rel
      | with_reducible refine ite_b (fun _ => ?_) (fun _ => ?_)
    all_goals first
      | (rw [‹y.isNan = true›, ‹x.isNan = true›] at q'; exact q')
      | (rw [‹y.isNan = true›, ‹x.isNan = false›] at q'; exact q')
      | (rw [‹y.isNan = false›] at q'; exact q')
  · repeat' tb_rel
    exact q'
  obtain ⟨is, his⟩ := filter_ints (p := spotC ys xs) (rngs_ints (n := xs.length) (a := 0))
  have hany := spots_any hlen
  rw [his] at hany ⊢
  repeat' first
    | with_reducible refine ev_builtin (by tb_start) (by tb_start) (by tb_start) (by decide) ?_ (by tb_start) (by decide)
    | ((with_reducible show CallD _ _ [_, .glob _] _ _ _); refine isi_inst ?_)
    | with_reducible refine seen_spec (by ktr_room) ha ?_
    | with_reducible refine use_binB (ne_same (seen3_kin (by decide +kernel) ha (lst_kin its_plain))) ?_
    | with_reducible refine use_binB (ne_dd plain_ints rfl depth_ints' (by decide)) ?_
    | tb_rel
  rw [eqv_nil, hany]
  cases hb : newNan ys xs with
  | true =>
    rw [hb, if_pos rfl] at hn
    rw [if_neg (by decide)]
    repeat' first
      | with_reducible refine use_binB (ne_ml hn (by decide +kernel) (by decide +kernel) (by decide +kernel) (by decide +kernel)) ?_
      | with_reducible refine exs_weak (by unfold Weak; intro p hp; simp at hp; rcases hp with rfl | rfl | rfl | rfl | rfl <;> with_unfolding_all rfl) rest
      | tb_rel
  | false =>
    rw [hb, if_neg (by decide)] at hn
    rw [if_pos (by decide)]
    repeat' first
      | with_reducible refine use_binB (ne_ml hn (by decide +kernel) (by decide +kernel) (by decide +kernel) (by decide +kernel)) ?_
      | with_reducible refine exs_weak (by unfold Weak; intro p hp; simp at hp; rcases hp with rfl | rfl | rfl | rfl | rfl <;> with_unfolding_all rfl) rest
      | tb_rel
end

end
section
theorem abs_all : ∀ {xs : List It}, xs.mapM (vMath .abs) = some (xs.map vAbs)
  | [] => rfl
  | x :: xs => by rw [List.mapM_cons, abs_all]; rfl
def absD : D → D
  | .int i => .int (if i < 0 then -i else i)
  | d => d
theorem abs_map {is : List (Option Int)} : (is.map wi).map absD = (is.map absO).map wi := by
  rw [List.map_map, List.map_map]
  congr 1
  funext o
  cases o <;> rfl
section
variable {C : Ctx} {σ : Store} {X : XP} {Q : D → Store → Prop}
set_option maxHeartbeats 0 in
theorem midA {L' r n : Addr} {k : Kd} {is : List (Option Int)} {a : At} {c0 : Addr} {σ₀ : Store} (hk : k ≠ .dbl) (hf : 9 ≤ C.fuel) (ha : a.ok) (hD : Drawn k (is.map wi) (is.map fi)) (hr : RowS σ₀ r σ) (hr4 : 403 ≠ r) (hσ : σ 403 = some (.tab #[rawInt 388, rawInt 21, .ref c0]))
    (hn : σ n = some (.lst [])) (q : ∀ σ' ps, σ' 403 = some (.tab ps) → Q (.bool true) σ') :
    Exs (lCtx C L') (lEnv L') (tRho .abs k (is.map wi) (is.map fi) a n r (vec (Str.ofString "integer") ((is.map absO).map wi) a.d) (dues .abs (is.map fi))) (List.drop 8 B406) σ (Back Q) X := by
  have hl := hD.len
  rw [List.length_map] at hl
  have rest := law1 (C := C) (L' := L') (X := X) (nm := .abs) (k := k) hf ha hD hr hr4 hσ q
  dsimp only [List.drop] at rest
  dsimp only [List.drop]
  have hno := no_in (nm := .abs) (xs := is.map fi)
  rw [abs_all] at hno
  have e1 := Nm.eqa1
  have e2 := Kd.eqd hk
  refine ex_cons (ex_if (Jd.mono (Q := fun b s => b = false ∧ σ = s) ?_ ?_ fun _ _ x => x))
  · repeat' first
      | with_reducible refine use_binB (in_lst (by decide +kernel) dues_plain (by decide)) ?_
      | tb_rel
    exact ⟨hno, rfl⟩
  rintro _ _ ⟨rfl, rfl⟩
  rw [if_neg (by decide)]
  refine ex_cons (ex_assign (.inl rfl) (ev_str ?_) rfl)
  refine after_next (ex_cons (ex_if (Jd.mono (Q := fun b s => b = true ∧ σ = s) ?_ ?_ fun _ _ x => x)))
  · repeat' tb_rel
    exact ⟨rfl, rfl⟩
  rintro _ _ ⟨rfl, rfl⟩
  rw [if_pos rfl]
  repeat' tb_rel
  refine ev_listc ⟨rfl, by decide, rfl, by decide, rfl, (fun p hp => nomatch hp), ⟨_, _, _, rfl, rfl, rfl⟩⟩ (fun _ => rfl) ?_
  repeat' tb_rel
  refine ⟨is.map wi, by rw [List.length_map]; omega, walk_lst, turns_map (ρ' := []) (fun d => some (absD d)) (Str.ofString "") (fun p hp => nomatch hp) (fun d hd new L Q' q' => ?_) ?_⟩
  · obtain ⟨o, _, rfl⟩ := List.mem_map.mp hd
    cases o <;> (dsimp only [wi, Got, absD] at q' ⊢; repeat' tb_rel) <;> exact q'
  rw [mapM_some, abs_map]
  dsimp only [Gots]
  refine after_next (ex_nil (after_next (ex_cons ?_)))
  refine ex_listc ⟨rfl, by decide, rfl, by decide, rfl, (by intro p hp; simp at hp; rcases hp with rfl | rfl <;> rfl), ⟨_, _, _, rfl, rfl, rfl⟩⟩ (fun _ => rfl) rfl rfl ?_
  repeat' tb_rel
  refine ⟨rngs 0 is.length, by rw [rngs_length]; omega, walk_rng (by rw [List.length_map, List.length_map]; omega) (by omega) (by rw [List.length_map, List.length_map]; omega), turns_filter (ρ' := [(Str.ofString "due", .lst ((is.map absO).map wi)), (Str.ofString "xs", .lst ((is.map fi).map It.d))]) (fun _ => false) (by intro p hp; simp only [List.mem_cons, List.not_mem_nil, or_false] at hp; rcases hp with rfl | rfl <;> exact ⟨rfl, .inl rfl, .inl rfl, rfl⟩) (fun e he new L Q' q' => ?_) (fun e he new L Q' q' => ?_) ?_⟩
  · obtain ⟨i, hi⟩ := List.getElem?_of_mem he
    obtain ⟨hlt, rfl⟩ := rngs0 hi
    obtain ⟨o, ho⟩ : ∃ o, (is.map absO)[i]? = some o := ⟨absO is[i], by rw [List.getElem?_map, List.getElem?_eq_getElem hlt]; rfl⟩
    have hy' : ((is.map absO).map wi)[(i : Int).toNat]? = some (wi o) := by rw [Int.toNat_natCast, List.getElem?_map, ho]; rfl
    repeat' first
      | with_reducible refine use_bin (sub_lstR (by omega) (by omega) hy' (fun _ _ => rfl)) ?_
      | with_reducible refine use_binB eq_wi ?_
      | tb_rel
    exact q'
  · repeat' tb_rel
    exact q'
  rw [show (rngs 0 is.length).filter (fun _ => false) = ([] : List Int).map .int by simp]
  repeat' first
    | with_reducible refine ev_builtin (by tb_start) (by tb_start) (by tb_start) (by decide) ?_ (by tb_start) (by decide)
    | ((with_reducible show CallD _ _ [_, .glob _] _ _ _); refine isi_inst ?_)
    | with_reducible refine seen_spec (by ktr_room) ha ?_
    | with_reducible refine use_binB (ne_same (seen3_kin (by decide +kernel) ha (lst_kin wis_plain))) ?_
    | with_reducible refine use_binB (ne_dd plain_ints rfl depth_ints' (by decide)) ?_
    | with_reducible refine use_binB (ne_ml hn (by decide +kernel) (by decide +kernel) (by decide +kernel) (by decide +kernel)) ?_
    | with_reducible refine exs_weak (by unfold Weak; intro p hp; simp only [List.mem_cons, List.not_mem_nil, or_false] at hp; rcases hp with rfl | rfl | rfl | rfl | rfl <;> with_unfolding_all rfl) rest
    | tb_rel
end

end
section
theorem RowS.triv {σ₀ σ : Store} {a : Addr} (h : RowS σ₀ a σ) : RowS (fun _ => none) a σ := by
  obtain ⟨is, h1, h2, h3, h4⟩ := h
  exact ⟨is, h1, h2, h3, fun b o hb e => nomatch e⟩
section
variable {C : Ctx} {σ : Store} {X : XP} {Q : D → Store → Prop}
set_option maxHeartbeats 0 in
theorem law6 {L' r : Addr} {nm : Nm} {k : Kd} {ds : List D} {xs : List It} {a : At} {σ₀ : Store} (hf : 11 ≤ C.fuel) (ha : a.ok) (hD : Drawn k ds xs) (hr : RowS σ₀ r σ) (hr4 : 403 ≠ r) (hσ : σ 403 = some (.tab #[])) (q : ∀ σ' ps, σ' 403 = some (.tab ps) → Q (.bool true) σ') :
    Exs (lCtx C L') (lEnv L') [(Str.ofString "due", .lst (dues nm xs)), (Str.ofString "xs", .lst (xs.map It.d)), (Str.ofString "held", heldD k ds a), (Str.ofString "v", vec k.str ds a.d), (Str.ofString "name", .str nm.str), (Str.ofString "row", .mut r)] (List.drop 6 B406) σ (Back Q) X := by
  have hl := hD.len
  dsimp only [List.drop]
  refine ex_cons (ex_assign (.inr ⟨rfl, rfl⟩) (ev_listM fun n hn => ?_) rfl)
  have hn4 : n ≠ 403 := fun z => by rw [z, hσ] at hn; cases hn
  have fr := hr.fresh hn
  refine after_next (ex_cons (ex_assign (.inl rfl) ?_ rfl))
  refine ev_kept' (ρ2 := [(Str.ofString "name", .str nm.str), (Str.ofString "v", vec k.str ds a.d), (Str.ofString "notes", .mut n)]) (ps := #[]) ((Store.set_other hn4.symm).trans hσ) (by exact trivial) (by rfl) (by ktr_room) (by rfl) (by rfl) (by rfl) (by rfl) (by rfl) (fun _ _ _ _ => by rfl) (by decide) (by rfl) (by rfl) (by rfl) (by intro p hp; simp only [List.mem_cons, List.not_mem_nil, or_false] at hp; rcases hp with rfl | rfl | rfl <;> rfl) (by intro p hp; simp only [List.mem_cons, List.not_mem_nil, or_false] at hp; rcases hp with rfl | rfl | rfl <;> exact ⟨rfl, .inl rfl, rfl, rfl, rfl⟩) (by rfl) (fun L1 L2 f c' => ?_)
  generalize hs2 : (σ.set n (.lst [])).set 403 (.tab (#[] ++ #[rawInt (_ : Nat), rawInt (_ : Nat), .ref c'])) = σ2
  have g4 : σ2 403 = some (.tab #[rawInt 388, rawInt 21, .ref c']) := by rw [← hs2]; exact Store.set_self
  have gn : σ2 n = some (.lst []) := by rw [← hs2]; exact (Store.set_other hn4).trans Store.set_self
  have gr : RowS (fun _ => none) r σ2 := by rw [← hs2]; exact (hr.triv.put ⟨rfl, fr.2⟩).put ⟨rfl, hr4⟩
  clear hs2
  repeat' tb_rel
  by_cases hA : nm = .abs ∧ k ≠ .dbl
  · obtain ⟨rfl, hk⟩ := hA
    cases id hD with
    | dbl _ _ => exact absurd rfl hk
    | whole _ _ _ =>
      exact math1_abs hk (by ktr_room) (by rw [List.length_map] at hl; omega) ha (after_next (midA hk (by omega) ha hD gr hr4 g4 gn q))
  · have hk : nm ≠ .abs ∨ k = .dbl := by
      by_cases h : nm = .abs
      · refine .inr ?_
        cases k with
        | dbl => rfl
        | log => exact absurd ⟨h, fun z => nomatch z⟩ hA
        | int => exact absurd ⟨h, fun z => nomatch z⟩ hA
      · exact .inl h
    refine math1_gen hk (by ktr_room) (by omega) ha (fun x hx => (hD.good x hx).small) gn hD.doubles (fun ys hm => after_next ?_) (fun hm => after_next (midB (by omega) ha hD gr hr4 g4 hm q))
    split
    · rename_i hb
      exact midC hk (by omega) ha hD (gr.put ⟨rfl, fr.2⟩) hr4 ((Store.set_other hn4.symm).trans g4) hm (by rw [if_pos hb]; exact Store.set_self) q
    · rename_i hb
      exact midC hk (by omega) ha hD gr hr4 g4 hm (by rw [if_neg hb]; exact gn) q
end

end
section
def fiD : D → D
  | .int i => .tup [.int i, .int 1]
  | d => d
theorem fi_map {is : List (Option Int)} : (is.map wi).map fiD = (is.map fi).map It.d := by
  rw [List.map_map, List.map_map]
  congr 1
  funext o
  cases o <;> rfl
theorem dues_map {nm : Nm} {xs : List It} : (xs.map It.d).map (fun d => due1 (vMath nm (itOf d))) = dues nm xs := by
  rw [List.map_map]
  congr 1
  funext x
  show due1 (vMath nm (itOf x.d)) = _
  rw [itOf_d]
section
variable {C : Ctx} {σ : Store} {X : XP} {Q : D → Store → Prop}
set_option maxHeartbeats 0 in
theorem law5 {L' r : Addr} {nm : Nm} {k : Kd} {ds : List D} {xs : List It} {a : At} {σ₀ : Store} (hf : 11 ≤ C.fuel) (ha : a.ok) (hD : Drawn k ds xs) (hr : RowS σ₀ r σ) (hr4 : 403 ≠ r) (hσ : σ 403 = some (.tab #[])) (q : ∀ σ' ps, σ' 403 = some (.tab ps) → Q (.bool true) σ') :
    Exs (lCtx C L') (lEnv L') [(Str.ofString "xs", .lst (xs.map It.d)), (Str.ofString "held", heldD k ds a), (Str.ofString "v", vec k.str ds a.d), (Str.ofString "name", .str nm.str), (Str.ofString "row", .mut r)] (List.drop 5 B406) σ (Back Q) X := by
  have hl := hD.len
  have rest := law6 (C := C) (L' := L') (X := X) (nm := nm) (k := k) hf ha hD hr hr4 hσ q
  dsimp only [List.drop] at rest
  dsimp only [List.drop]
  repeat' tb_rel
  refine ev_listc ⟨rfl, by decide, rfl, by decide, rfl, (by intro p hp; simp at hp; rcases hp with rfl; rfl), ⟨_, _, _, rfl, rfl, rfl⟩⟩ (fun _ => rfl) ?_
  repeat' tb_rel
  refine ⟨xs.map It.d, by rw [List.length_map]; omega, walk_lst, turns_map (ρ' := [(Str.ofString "name", .str nm.str)]) (fun d => some (due1 (vMath nm (itOf d)))) (Str.ofString "") (by intro p hp; simp only [List.mem_cons, List.not_mem_nil, or_false] at hp; rcases hp with rfl; exact ⟨rfl, .inl rfl, .inl rfl, rfl⟩) (fun d hd new L Q' q' => ?_) ?_⟩
  · obtain ⟨x, hx, rfl⟩ := List.mem_map.mp hd
    rw [itOf_d] at q'
    repeat' tb_rel
    exact value_spec (by ktr_room) (hD.good x hx) q'
  · rw [mapM_some, dues_map]
    exact after_next rest
set_option maxHeartbeats 0 in
theorem law3b {L' r : Addr} {nm : Nm} {k : Kd} {ds : List D} {xs : List It} {a : At} {σ₀ : Store} (hf : 11 ≤ C.fuel) (ha : a.ok) (hD : Drawn k ds xs) (hr : RowS σ₀ r σ) (hr4 : 403 ≠ r) (hσ : σ 403 = some (.tab #[])) (q : ∀ σ' ps, σ' 403 = some (.tab ps) → Q (.bool true) σ') :
    Exs (lCtx C L') (lEnv L') [(Str.ofString "v", vec k.str ds a.d), (Str.ofString "name", .str nm.str), (Str.ofString "row", .mut r)] (List.drop 3 B406) σ (Back Q) X := by
  have hl := hD.len
  have rest := law5 (C := C) (L' := L') (X := X) (nm := nm) (k := k) hf ha hD hr hr4 hσ q
  dsimp only [List.drop] at rest
  dsimp only [List.drop]
  repeat' first
    | with_reducible refine seen_spec (by ktr_room) ha ?_
    | tb_rel
  refine ev_listc ⟨rfl, by decide, rfl, by decide, rfl, (by intro p hp; simp at hp; rcases hp with rfl; rfl), ⟨_, _, _, rfl, rfl, rfl⟩⟩ (fun _ => rfl) ?_
  repeat' tb_rel
  cases id hD with
  | whole hk h1 h2 =>
    rename_i is
    have e2 := Kd.eqd hk
    refine ⟨is.map wi, by omega, walk_lst, turns_map (ρ' := [(Str.ofString "v", vec k.str (is.map wi) a.d)]) (fun d => some (fiD d)) (Str.ofString "") (by intro p hp; simp only [List.mem_cons, List.not_mem_nil, or_false] at hp; rcases hp with rfl; exact ⟨rfl, .inl rfl, .inl rfl, rfl⟩) (fun d hd new L Q' q' => ?_) ?_⟩
    · obtain ⟨o, _, rfl⟩ := List.mem_map.mp hd
      cases o <;> (dsimp only [wi, Got, fiD] at q' ⊢; repeat' tb_rel) <;> exact q'
    · rw [mapM_some, fi_map]
      exact after_next rest
  | dbl h1 h2 =>
    have e2 := Kd.eqd1
    refine ⟨xs.map It.d, by omega, walk_lst, turns_map (ρ' := [(Str.ofString "v", vec Kd.dbl.str (xs.map It.d) a.d)]) (fun d => some (id d)) (Str.ofString "") (by intro p hp; simp only [List.mem_cons, List.not_mem_nil, or_false] at hp; rcases hp with rfl; exact ⟨rfl, .inl rfl, .inl rfl, rfl⟩) (fun d hd new L Q' q' => ?_) ?_⟩
    · repeat' tb_rel
      exact q'
    · rw [mapM_some, List.map_id]
      exact after_next rest
theorem names8 {d : D} (h : d ∈ [D.str (Str.ofString "abs"), .str (Str.ofString "sign"), .str (Str.ofString "floor"), .str (Str.ofString "ceiling"), .str (Str.ofString "trunc"), .str (Str.ofString "sqrt"), .str (Str.ofString "exp"), .str (Str.ofString "log")]) : ∃ nm : Nm, d = .str nm.str := by
  simp only [List.mem_cons, List.not_mem_nil, or_false] at h
  rcases h with rfl | rfl | rfl | rfl | rfl | rfl | rfl | rfl
  · exact ⟨.abs, rfl⟩
  · exact ⟨.sign, rfl⟩
  · exact ⟨.floor, rfl⟩
  · exact ⟨.ceiling, rfl⟩
  · exact ⟨.trunc, rfl⟩
  · exact ⟨.sqrt, rfl⟩
  · exact ⟨.exp, rfl⟩
  · exact ⟨.log, rfl⟩
set_option maxHeartbeats 0 in
theorem law_spec {is : List Int} {ax : Addr} {vs : List Value} (hb : C.base.IsList ax vs.toArray) (hi : IntsAre vs is) (hf : 11 ≤ C.fuel) (hl : is.length ≤ 100) (hσ : σ 403 = some (.tab #[])) (q : ∀ σ' ps, σ' 403 = some (.tab ps) → Q (.bool true) σ') : CallD C (.ref 406) [.glob (.ref ax)] σ Q X := by
  refine call1C rfl rfl (by omega) (fun _ _ => BindsTo.of_eq rfl) (fun _ => .inl rfl) (fun L' => ?_) rfl rfl rfl (by decide)
  have rest := fun {s : Store} {r : Addr} {nm : Nm} {k : Kd} {ds : List D} {xs : List It} {a : At} (hr4 : 403 ≠ r) (h4 : s 403 = some (.tab #[])) (hr : RowS σ r s) (ha : a.ok) (hD : Drawn k ds xs) => law3b (C := C) (L' := L') (X := X) (nm := nm) hf ha hD hr hr4 h4 q
  dsimp only [List.drop] at rest
  refine ex_cons (ex_assign (.inl rfl) (Q := After _ _ _ _ _) (Jd.mono (Q := fun d s => ∃ r, d = .mut r ∧ RowS σ r s ∧ 403 ≠ r) ?_ ?_ fun _ _ x => x) rfl)
  · repeat' first
      | with_reducible refine row_spec hb hi (by ktr_room) (by omega) (fun _ _ _ _ => ?_)
      | tb_rel
    rename_i r s hr hn
    exact ⟨r, rfl, hr, fun z => by rw [← z, hσ] at hn; cases hn⟩
  rintro _ s ⟨r, rfl, hr, hr4⟩
  refine after_next (ex_cons (ex_assign (.inr ⟨rfl, rfl⟩) (Q := After _ _ _ _ _) (Jd.mono (Q := fun d s => ∃ nm : Nm, d = .str nm.str ∧ RowS σ r s) ?_ ?_ fun _ _ x => x) rfl))
  · repeat' first
      | with_reducible refine next_spec (by ktr_room) (by assumption) (fun _ _ _ _ _ => ?_)
      | tb_rel
    rename_i i s' _ _ hr'
    refine use_subm (by omega) (by simp only [List.length]; omega) (by simp only [List.length]; omega) (fun _ _ => rfl) (fun d hd => ?_)
    obtain ⟨nm, rfl⟩ := names8 hd
    exact ⟨nm, rfl, hr'⟩
  rintro _ s2 ⟨nm, rfl, hr2⟩
  refine after_next (ex_cons (ex_assign (.inr ⟨rfl, rfl⟩) (Q := After _ _ _ _ _) (Jd.mono (Q := fun d s => ∃ (k : Kd) (ds : List D) (xs : List It) (a : At), d = vec k.str ds a.d ∧ Drawn k ds xs ∧ a.ok ∧ RowS σ r s) ?_ ?_ fun _ _ x => x) rfl))
  · repeat' first
      | with_reducible refine vector_spec (by ktr_room) hr2 (fun _ _ _ _ _ _ _ _ => ?_)
      | tb_rel
    exact ⟨_, _, _, _, rfl, by assumption, by assumption, by assumption⟩
  rintro _ s3 ⟨k, ds, xs, a, rfl, hD, ha, hr3⟩
  refine after_next (exs_weak ?_ (rest (nm := nm) hr4 (by
    obtain ⟨_, _, _, _, h⟩ := hr3
    exact h 403 _ hr4 hσ) hr3 ha hD))
  intro p hp
  simp only [List.mem_cons, List.not_mem_nil, or_false] at hp
  rcases hp with rfl | rfl | rfl <;> rfl
end

end
end
section
set_option maxHeartbeats 0
noncomputable abbrev c0 (w : World) (h : Heap) : Ctx := ⟨PySem.Challenge.rw_nz0482_01.row.toRowW.prog, w, ghostOf h [(405, 403)], callerA, [], [], 100⟩
abbrev s0 : Store := fun a => if a = 403 then some (.tab #[]) else none
theorem no_tabs (P : Params) : noTabs (frag P) = true := by rfl
theorem ground_c0 {w : World} {h : Heap} {p : Program} {loose : List Str} {mean : ExcName → Option Value} {mg mb : Str → Option Value} (KX : (frag w.params).In h) (hT : TabsAt [(405, 403)] h) (T : Top p loose mean mg mb h) : Hg (c0 w h) s0 h := by
  have T' := ghost_top hT T
  obtain ⟨bm, ob, b1, b2, b3, b4⟩ := T'.bmain
  refine ⟨⟨⟨ghost_K hT KX (no_tabs _), ⟨mg, T'.g⟩, ⟨mb, T'.b, T.builtins⟩, T'.nolimit, ⟨mg, bm, ob, T'.g, b1, b2, b3, b4⟩⟩, rfl, rfl, (fun a m => nomatch m), (by show callerA.depth + 100 < recursionLimit; decide), (by show callerA.units + 8 * 100 + 100 < cLine; decide)⟩, fun b o e => of_hideAll _ e, fun a o e => ⟨List.not_mem_nil, ?_⟩, trivial, (fun a m => nomatch m), fun a o e => ⟨List.not_mem_nil, ?_⟩⟩
  · have hne : a ≠ 403 := fun z => by
      have q : (ghostOf h [(405, 403)]).get? 403 = none := hideAll_none _ (.head _)
      rw [z] at e
      have e' : (ghostOf h [(405, 403)]).get? 403 = some o := e
      rw [q] at e'; cases e'
    exact if_neg hne
  · by_cases z : a = 403
    · subst z
      have e' : some (AObj.tab #[]) = some o := e
      cases e'
      exact (hT (405, 403) (.head _)).2
    · have e' : (none : Option AObj) = some o := (if_neg z).symm.trans e
      cases e'
theorem walk : TheWalk := by
  intro w s₀ s₁ mg mb G Y fa o pm cd doc dV kV ho hd hcd hD hmg hg args vals as hpre hlay hrd hwl hlo
  have KX := km_in_of Y
  have hT8 := km_tabs_of Y
  have X := (Ground.X G).1
  refine Ground.open G ?_
  intro T B D TE TW
  clear hcd hD hd
  wrow_args hpre hlay hrd hwl hlo
  rename_i is h1 h2 h3 h4 h5 as4 as3 ax vs as0 hL ra w1 r0 hI hr hc1 hc2
  have e6 : mg lawD.name = some (.ref 406) := mg_of KX T.g (by rfl)
  rw [e6] at hmg
  cases hmg
  have hTb : TabsAt [(405, 403)] s₁.heap := fun q hq => by
    rw [List.mem_singleton.mp hq]
    exact ⟨codeHd_of_K KX (by rfl), hT8 403 (.head _)⟩
  have g := ground_c0 KX hTb T
  have hlen : is.length ≤ 100 := by omega
  have hbase : (c0 w s₁.heap).base.IsList ax vs.toArray := ghost_list hTb hL
  have L := law_spec (C := c0 w s₁.heap) (σ := s0) (X := fun _ _ => False) (Q := fun d σ' => d = .bool true ∧ ∃ ps, σ' 403 = some (.tab ps)) hbase hI (by show 11 ≤ 100; decide) hlen rfl (fun σ' ps h => ⟨rfl, ps, h⟩)
  refine wpAny_mono (L.out s₁ [.ref ax] g (.cons (.glob _) .nil)) ?_ ?_
  · rintro v s' ⟨d, σ', u, g', st, r, rfl, ps, hps⟩
    cases r
    have keep : ∀ b o, b ≠ 403 → s₁.heap.get? b = some o → s'.heap.get? b = some o := fun b o hb e => g'.stays b o (hideAll_get _ e (fun m => hb (List.mem_singleton.mp m)))
    have h403 : s'.heap.get? 403 = some (tabObj ps) := (g'.at_ 403 _ hps).2
    have hct : isCodeTable s₁.heap 403 := ((hTb (405, 403) (.head _)).1.tab (hTb (405, 403) (.head _)).2).isCodeTable
    refine ⟨.inl ⟨_, _, _, rfl, fun _ => rfl, .bool true, by first | kernel_rfl | (show (true && _) = true; rfl) | (show (_ && _) = true; trace_state; fail "post"), fun _ => ⟨List.nodup_nil, fun a m => nomatch m⟩⟩, ⟨fun b o e => ?_, fun b o e => ?_⟩, ?_, ?_⟩
    · by_cases hb : b = 403
      · subst hb
        have e2 := hT8 403 (.head _)
        rw [e] at e2
        cases e2
        exact .inr (.inl ⟨hct, rfl, #[], ps, rfl, by rw [Array.empty_append]; exact h403⟩)
      · exact .inl (keep b o hb e)
    · by_cases hb : b = 403
      · exact ⟨_, hb ▸ h403⟩
      · exact ⟨o, keep b o hb e⟩
    · rw [u]
    · rw [u]
      exact .of_eq hg
  · rintro e s' ⟨msg, σ', u, R, st, q⟩
    exact q.elim
end
end Mine
theorem PySem.Challenge.cw_nz0482_01_holds : PySem.Challenge.rw_nz0482_01.Holds :=
  Mine.head Mine.walk
